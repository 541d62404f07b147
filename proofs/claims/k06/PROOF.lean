import PyProof.Rows.All
import Wide.All
import OpenK.AllK
import Wide.FinOn
import KE.KStateDown
import HandS.ForMost
import HandS.ForExc
import HandS.SortInts
import HandS.Dict
import HandS.More
import HandS.Conv
import HandS.IsInst
import HandS.Rev
import HandS.Flow
import HandS.TupAny
import HandS.SortRule
import HandS.ExcOwn
import HandS.TryMany
import HandS.ExcIs
import HandS.WordsExc
import HandS.CallSlots
import HandS.Head0
import HandS.Head1
import HandS.Head2
import HandS.HeadEnd
import HandS.HeadHook1
import HandS.HeadHook2
import HandS.Defaults
import HandS.Base
import HandS.Call
import HandS.Ends
import HandS.Words
import PySem.Challenge.RW_quirebound_k06_rows_of_folds
set_option Elab.async false
set_option linter.all false
set_option maxRecDepth 100000
set_option maxHeartbeats 4000000
/-! V0: the value layer's data, syntax and evaluator (plain Lean) -/
namespace VL
open PySem

/-! ### data -/
inductive D where
  | non | bl (b : Bool) | int (i : Int) | str (s : Str)
  | tup (ds : List D) | lst (ds : List D) | dic (t : Bool) (kvs : List (D × D)) | ktup (ds : List D)
  | ins (c : Nat) (fs : List (Str × D)) | ref (n : Nat)

mutual
def D.beq : D → D → Bool
  | .non, .non => true
  | .bl a, .bl b => a == b
  | .int a, .int b => decide (a = b)
  | .str a, .str b => decide (a = b)
  | .tup a, .tup b => D.beqs a b
  | .lst a, .lst b => D.beqs a b
  | .dic t a, .dic u b => (t == u) && D.beqk a b
  | .ktup a, .ktup b => D.beqs a b
  | .ins c a, .ins d b => decide (c = d) && D.beqf a b
  | .ref a, .ref b => decide (a = b)
  | _, _ => false
def D.beqs : List D → List D → Bool
  | [], [] => true
  | a :: x, b :: y => D.beq a b && D.beqs x y
  | _, _ => false
def D.beqk : List (D × D) → List (D × D) → Bool
  | [], [] => true
  | (a, a') :: x, (b, b') :: y => D.beq a b && D.beq a' b' && D.beqk x y
  | _, _ => false
def D.beqf : List (Str × D) → List (Str × D) → Bool
  | [], [] => true
  | (a, a') :: x, (b, b') :: y => decide (a = b) && D.beq a' b' && D.beqf x y
  | _, _ => false
end
mutual
theorem D.beq_iff : ∀ a b : D, D.beq a b = true ↔ a = b
  | .non, b => by cases b <;> simp [D.beq]
  | .bl x, b => by cases b <;> simp [D.beq]
  | .int x, b => by cases b <;> simp [D.beq]
  | .str x, b => by cases b <;> simp [D.beq]
  | .tup x, b => by
    cases b with
    | tup y => simp [D.beq, D.beqs_iff x y]
    | _ => simp [D.beq]
  | .lst x, b => by
    cases b with
    | lst y => simp [D.beq, D.beqs_iff x y]
    | _ => simp [D.beq]
  | .dic t x, b => by
    cases b with
    | dic u y => simp [D.beq, D.beqk_iff x y]
    | _ => simp [D.beq]
  | .ktup x, b => by
    cases b with
    | ktup y => simp [D.beq, D.beqs_iff x y]
    | _ => simp [D.beq]
  | .ins c x, b => by
    cases b with
    | ins d y => simp [D.beq, D.beqf_iff x y]
    | _ => simp [D.beq]
  | .ref x, b => by cases b <;> simp [D.beq]
theorem D.beqs_iff : ∀ a b : List D, D.beqs a b = true ↔ a = b
  | [], b => by cases b <;> simp [D.beqs]
  | a :: x, b => by
    cases b with
    | nil => simp [D.beqs]
    | cons b y => simp [D.beqs, D.beq_iff a b, D.beqs_iff x y]
theorem D.beqk_iff : ∀ a b : List (D × D), D.beqk a b = true ↔ a = b
  | [], b => by cases b <;> simp [D.beqk]
  | (a, a') :: x, b => by
    cases b with
    | nil => simp [D.beqk]
    | cons b y => obtain ⟨b, b'⟩ := b; simp [D.beqk, D.beq_iff a b, D.beq_iff a' b', D.beqk_iff x y]
theorem D.beqf_iff : ∀ a b : List (Str × D), D.beqf a b = true ↔ a = b
  | [], b => by cases b <;> simp [D.beqf]
  | (a, a') :: x, b => by
    cases b with
    | nil => simp [D.beqf]
    | cons b y => obtain ⟨b, b'⟩ := b; simp [D.beqf, D.beq_iff a' b', D.beqf_iff x y]
end
instance : DecidableEq D := fun a b => decidable_of_iff _ (D.beq_iff a b)

/-- what a mutable thing holds -/
inductive MO where
  | lst (ds : List D) | dic (kvs : List (D × D)) | ins (c : Nat) (fs : List (Str × D))
abbrev Mem := List MO
/-- how deep a thing is one's own: settled, its top alone above m, all of it -/
inductive Md where
  | z | s (m : Md) | all
  deriving DecidableEq
def Md.dn : Md → Md
  | .z => .z
  | .s m => m
  | .all => .all
def Md.up : Md → Md
  | .all => .all
  | m => .s m
@[simp] theorem Md.dn_up (m : Md) : m.up.dn = m := by cases m <;> rfl
theorem Md.up_ne (m : Md) : m.up ≠ .z := by cases m <;> intro h <;> cases h
inductive SV where
  | un | fz (d : D) | ow (m : Md) (d : D)
abbrev Sl := List SV
def D.isLD : D → Bool
  | .lst _ => true
  | .dic _ _ => true
  | _ => false
mutual
/-- no list, no dict, no object within -/
def D.noL : D → Bool
  | .tup ds => D.noLs ds
  | .lst _ => false
  | .dic _ _ => false
  | .ktup _ => false
  | .ins _ _ => false
  | .ref _ => true
  | _ => true
def D.noLs : List D → Bool
  | [] => true
  | d :: ds => D.noL d && D.noLs ds
end
mutual
/-- lists and dicts, in whose tuples there are none -/
def D.tupNoL : D → Bool
  | .tup ds => D.noLs ds
  | .lst ds => D.tupNoLs ds
  | .dic _ kvs => D.tupNoLk kvs
  | .ktup _ => false
  | .ins _ _ => false
  | .ref _ => false
  | _ => true
def D.tupNoLs : List D → Bool
  | [] => true
  | d :: ds => D.tupNoL d && D.tupNoLs ds
def D.tupNoLk : List (D × D) → Bool
  | [] => true
  | (_, d) :: ds => D.tupNoL d && D.tupNoLk ds
end
def viewV : SV → SV
  | .ow _ d => .fz d
  | s => s
/-- all that is owned, looked at -/
def viewS (ρ : Sl) : Sl := ρ.map viewV

inductive R (α : Type) where
  | ok (a : α) (M : Mem) | ex (c : Nat) (M : Mem) | st
def R.bind {α β : Type} (r : R α) (f : α → Mem → R β) : R β :=
  match r with
  | .ok a M => f a M
  | .ex c M => .ex c M
  | .st => .st
@[simp] theorem R.bind_ok {α β : Type} (a : α) (M : Mem) (f : α → Mem → R β) : (R.ok a M).bind f = f a M := rfl
@[simp] theorem R.bind_ex {α β : Type} (c : Nat) (M : Mem) (f : α → Mem → R β) : (R.ex c M : R α).bind f = .ex c M := rfl
@[simp] theorem R.bind_st {α β : Type} (f : α → Mem → R β) : (R.st : R α).bind f = .st := rfl
/-- an exception here is not served -/
def R.nox {α : Type} : R α → R α
  | .ok a M => .ok a M
  | _ => .st
@[simp] theorem R.nox_ok {α : Type} (a : α) (M : Mem) : (R.ok a M).nox = .ok a M := rfl
def R.of {α : Type} (o : Option α) (M : Mem) : R α :=
  match o with
  | some a => .ok a M
  | none => .st
@[simp] theorem R.of_some {α : Type} (a : α) (M : Mem) : R.of (some a) M = .ok a M := rfl
@[simp] theorem R.of_none {α : Type} (M : Mem) : R.of (none : Option α) M = .st := rfl

/-! ### syntax -/
inductive BOp where
  | add | sub | mul | fdiv | mod | pow | band
  deriving DecidableEq
inductive COp where
  | eq | ne | lt | le | gt | ge | isin | notin
  deriving DecidableEq
inductive Blt where
  | len | int | list | tuple | max | min | abs | sum | sorted | any | all | str
  deriving DecidableEq
inductive Mth where
  | get | index
  deriving DecidableEq
inductive Ty where
  | int | bool | str | list | tuple | dict
  deriving DecidableEq
inductive ItK where
  | seq | rng1 | rng2 | rev | zip | enum | rng3 | keys
  deriving DecidableEq
inductive Pt where
  | v (i : Nat) | t (ps : List Pt)
inductive Ex where
  | var (i : Nat) | lit (d : D) | glob (k : Nat)
  | tup (es : List Ex) | lst (es : List Ex) | dict0
  | bin (o : BOp) (a b : Ex) | neg (a : Ex)
  | cmp (o : COp) (a b : Ex) | chain (o o2 : COp) (a b c : Ex) | isN (a : Ex) (ng : Bool)
  | and (es : List Ex) | or (es : List Ex) | not (a : Ex) | ite (c a b : Ex)
  | ix (a b : Ex) | sl (a lo hi : Ex)
  | call (f : Nat) (es : List Ex) | blt (b : Blt) (es : List Ex) | mth (m : Mth) (o : Ex) (es : List Ex)
  | isi (a : Ex) (t : Ty)
  | comp (elt : Ex) (p : Pt) (k : ItK) (args : List Ex) (conds : List Ex) (own : List Nat)
  | bor (e : Ex)
  | lrng (es : List Ex)
  | dget (d k : Ex) (o : Option Ex) | dix (d k : Ex) | din (k d : Ex) (ng : Bool)
  | comp2 (elt : Ex) (p : Pt) (k : ItK) (args conds : List Ex) (own : List Nat) (p2 : Pt) (k2 : ItK) (args2 conds2 : List Ex) (own2 : List Nat)
/-- what gives a thing of one's own -/
inductive Ax where
  | e (x : Ex) | lst (as : List Ax) | dict0 (t : Bool) | fr (x : Ex) | call (f : Nat) (es : List Ex)
  | ix (a : Ax) (k : Ex) | comp (elt : Ax) (p : Pt) (k : ItK) (args : List Ex) (conds : List Ex) (own : List Nat)
  | bor (a : Ax) | dn (a : Ax)
/-- what is put in: an expression, or a name's own thing, which the name gives up -/
inductive El where
  | a (a : Ax) | mv (j : Nat)
/-- a change -/
inductive Mu where
  | app | setk (k : Ex) | clear | rev | ins (k : Ex) | ext
/-- what a clause of a try hands back: e is the error -/
inductive Hx where
  | lit (d : D) | tup (hs : List Hx) | isi (c : Nat) | isv | and (hs : List Hx) | or (hs : List Hx) | not (h : Hx)
/-- a clause: its class, its name's slot, what it hands back -/
structure Hd where
  c : Nat
  i : Option Nat
  b : Hx
inductive Sm where
  | asg (p : Pt) (e : Ex) | own (i : Nat) (a : Ax)
  | dset (i : Nat) (k v : Ex)
  | mut (i : Nat) (ps : List Ex) (mu : Mu) (el : El) | pop (p : Pt) (i : Nat) (ps : List Ex) (k : Option Ex)
  | aug (i : Nat) (o : BOp) (e : Ex)
  | expr (e : Ex) | ret (e : Ex) | retN | retA (a : Ax) | retV (i : Nat)
  | ifs (c : Ex) (a b : List Sm)
  | for_ (p : Pt) (k : ItK) (args : List Ex) (body : List Sm)
  | while_ (c : Ex) (body : List Sm)
  | brk | cnt | pass | raise (c : Nat)
  | freeze (i : Nat) | kill (is : List Nat)
  | try_ (body : List Sm) (hs : List Hd)
  | forK (p : Pt) (i : Nat) (body : List Sm) | popS (i : Nat) (ps : List Ex) (k : Option Ex) | clr (a : Ax)

/-! ### values -/
def bKind : D → Bool
  | .lst _ => true
  | _ => false
def truth : D → Option Bool
  | .non => some false
  | .bl b => some b
  | .int i => some (i != 0)
  | .str s => if s.length ≤ sizeLine then some ((s.length : Int) != 0) else none
  | .tup ds => some (!ds.isEmpty)
  | .lst ds => some (!ds.isEmpty)
  | _ => none
def deref (M : Mem) : D → Option D
  | .ref n => match M[n]? with
    | some (.lst ds) => some (.lst ds)
    | _ => none
  | d => some d
-- data that == takes
mutual
def D.py : D → Option PyData
  | .non => some .none
  | .bl b => some (.bool b)
  | .int i => some (.int i)
  | .str s => some (.str s)
  | .tup ds => (D.pys ds).map .tuple
  | .lst ds => (D.pys ds).map .list
  | _ => none
def D.pys : List D → Option (List PyData)
  | [] => some []
  | d :: ds => match D.py d, D.pys ds with
    | some a, some b => some (a :: b)
    | _, _ => none
end
/-- equality of data, by the model's own; none where it is not served -/
def eqD (a b : D) : Option Bool :=
  match a, b with
  | .str x, .str y => some (decide (x = y))
  | .int x, .int y => some (decide (x = y))
  | .bl x, .bl y => some (decide (x = y))
  | a, b => match D.py a, D.py b with
    | some x, some y => if SeqAt.shaped x = true ∧ SeqAt.shaped y = true then some (PyData.eqv x y) else none
    | _, _ => none
def eqF : D → D → Bool
  | .non, .non => true
  | .bl a, .bl b => a == b
  | .bl a, .int b => (if a then 1 else 0) == b
  | .int a, .bl b => a == (if b then 1 else 0)
  | .int a, .int b => a == b
  | .str a, .str b => a == b
  | _, _ => false
def CMulB (i j : Int) : Bool := decide ((-(2 ^ 64) < i ∧ i < 2 ^ 64) ∨ (-(2 ^ 64) < j ∧ j < 2 ^ 64))
def binD (o : BOp) (a b : D) : Option D :=
  match o, a, b with
  | .add, .int i, .int j => some (.int (i + j))
  | .sub, .int i, .int j => some (.int (i - j))
  | .mul, .int i, .int j => if CMulB i j = true then some (.int (i * j)) else none
  | .fdiv, .int i, .int j => if 0 < j ∧ j < 1073741824 then some (.int (i / j)) else none
  | .mod, .int i, .int j => if 0 < j then some (.int (i % j)) else none
  | .pow, .int i, .int j => if 0 ≤ j ∧ j ≤ 1000000 ∧ i.natAbs < 2 ^ 64 then some (.int (i ^ j.toNat)) else none
  | .band, .int i, .int j => some (.int (Builtin.bitAnd i j))
  | .add, .str x, .str y => if x.length + y.length ≤ sizeLine then some (.str (x ++ y)) else none
  | .add, .lst x, .lst y => if x.length + y.length ≤ sizeLine then some (.lst (x ++ y)) else none
  | .add, .tup x, .tup y => if x.length + y.length ≤ sizeLine then some (.tup (x ++ y)) else none
  | _, _, _ => none
/-- x op= y of numbers and texts -/
def augD (o : BOp) (a b : D) : Option D :=
  match o, a, b with
  | .add, .int i, .int j => some (.int (i + j))
  | .sub, .int i, .int j => some (.int (i - j))
  | .add, .str x, .str y => if x.length + y.length ≤ sizeLine then some (.str (x ++ y)) else none
  | _, _, _ => none
def flatD : D → Bool
  | .non | .bl _ | .int _ | .str _ => true
  | _ => false
def memD (x : D) (ds : List D) : Option Bool :=
  if flatD x = true ∧ ds.all flatD = true then some (ds.any fun y => eqF y x) else none
/-- in a list: flat things, or any data -/
def memG (x : D) (ds : List D) : Option Bool :=
  match memD x ds with
  | some b => some b
  | none => match D.py x, D.pys ds with
    | some a, some bs => if a.canLay0 = true ∧ PyData.canLayAll0 bs = true ∧ a.depth ≤ 63 then some (bs.any fun z => PyData.eqv z a) else none
    | _, _ => none
def cmpD (o : COp) (a b : D) : Option D :=
  match o with
  | .eq => (eqD a b).map .bl
  | .ne => (eqD a b).map fun r => .bl (!r)
  | .lt => match a, b with | .int i, .int j => some (.bl (decide (i < j))) | _, _ => none
  | .le => match a, b with | .int i, .int j => some (.bl (decide (i ≤ j))) | _, _ => none
  | .gt => match a, b with | .int i, .int j => some (.bl (decide (j < i))) | _, _ => none
  | .ge => match a, b with | .int i, .int j => some (.bl (decide (j ≤ i))) | _, _ => none
  | .isin => match b with | .lst ds => (memG a ds).map .bl | .tup ds => (memD a ds).map .bl | .ktup ds => (memD a ds).map .bl | _ => none
  | .notin => match b with | .lst ds => (memG a ds).map fun r => .bl (!r) | .tup ds => (memD a ds).map fun r => .bl (!r) | .ktup ds => (memD a ds).map fun r => .bl (!r) | _ => none
def ixD (a b : D) : Option D :=
  match a, b with
  | .lst ds, .int i => L2.atI ds i
  | .tup ds, .int i => L2.atI ds i
  | _, _ => none
def cutD (xs : List D) (lo hi : Option Int) : List D := (xs.drop (HT.sIx xs.length 0 lo)).take (HT.sIx xs.length xs.length hi - HT.sIx xs.length 0 lo)
def partD : D → Option Int
  | .int i => some i
  | _ => none
def slD (a : D) (l h : Option Int) : Option D :=
  match a with
  | .lst ds => some (.lst (cutD ds l h))
  | .tup ds => if HT.sIx ds.length 0 l = 0 ∧ HT.sIx ds.length ds.length h = ds.length then none else some (.tup (cutD ds l h))
  | _ => none
def intsOf : List D → Option (List Int)
  | [] => some []
  | .int i :: r => (intsOf r).map (i :: ·)
  | _ => none
def blsOf : List D → Option (List Bool)
  | [] => some []
  | .bl i :: r => (blsOf r).map (i :: ·)
  | _ => none
/-- a key -/
def flatK : D → Bool
  | .int _ => true
  | .str _ => true
  | _ => false
def maxL : List Int → Option Int
  | [] => none
  | a :: r => some (r.foldl max a)
def minL : List Int → Option Int
  | [] => none
  | a :: r => some (r.foldl min a)
def pairsOf : List D → Option (List (Int × Int))
  | [] => some []
  | .tup [.int i, .int j] :: r => (pairsOf r).map ((i, j) :: ·)
  | _ => none
def lePB (a b : Int × Int) : Bool := decide (a.1 < b.1 ∨ (a.1 = b.1 ∧ a.2 ≤ b.2))
/-- a list of ints, of pairs of ints, sorted -/
def srtD (ds : List D) : Option (List D) :=
  match intsOf ds with
  | some ns => some ((ns.mergeSort (fun a b => decide (a ≤ b))).map .int)
  | none => (pairsOf ds).map fun ps => (ps.mergeSort lePB).map fun p => .tup [.int p.1, .int p.2]
def bltD (b : Blt) (vs : List D) : Option D :=
  match b, vs with
  | .len, [.lst ds] => some (.int ds.length)
  | .len, [.tup ds] => some (.int ds.length)
  | .len, [.dic false kvs] => some (.int kvs.length)
  | .len, [.ktup ds] => some (.int ds.length)
  | .int, [.int i] => some (.int i)
  | .int, [.bl i] => some (.int (if i then 1 else 0))
  | .list, [.lst ds] => some (.lst ds)
  | .list, [.tup ds] => some (.lst ds)
  | .list, [.dic _ kvs] => some (.lst (kvs.map (·.1)))
  | .tuple, [.tup ds] => some (.tup ds)
  | .tuple, [.lst ds] => some (.tup ds)
  | .max, [.int i, .int j] => some (.int (if j > i then j else i))
  | .min, [.int i, .int j] => some (.int (if j < i then j else i))
  | .max, [.lst ds] => (intsOf ds).bind fun ns => (maxL ns).map .int
  | .min, [.lst ds] => (intsOf ds).bind fun ns => (minL ns).map .int
  | .sorted, [.lst ds] => (srtD ds).map .lst
  | .sorted, [.dic false kvs] => (intsOf (kvs.map (·.1))).map fun ns => .lst ((ns.mergeSort (fun a b => decide (a ≤ b))).map .int)
  | .abs, [.int i] => some (.int (if i < 0 then -i else i))
  | .sum, [.lst ds] => (intsOf ds).map fun ns => .int ns.sum
  | .all, [.lst ds] => (blsOf ds).map fun ns => .bl (ns.all id)
  | .any, [.lst ds] => (blsOf ds).map fun ns => .bl (ns.any id)
  | _, _ => none
def isiD (t : Ty) (d : D) : Option Bool :=
  match t with
  | .int => (match d with | .bl _ => some true | .int _ => some true | .non => some false | .str _ => some false | .tup _ => some false | .lst _ => some false | _ => none)
  | .bool => (match d with | .bl _ => some true | .int _ => some false | .non => some false | .str _ => some false | .tup _ => some false | .lst _ => some false | _ => none)
  | .str => (match d with | .bl _ => some false | .int _ => some false | .non => some false | .str _ => some true | .tup _ => some false | .lst _ => some false | _ => none)
  | .list => (match d with | .bl _ => some false | .int _ => some false | .non => some false | .str _ => some false | .tup _ => some false | .lst _ => some true | _ => none)
  | .tuple => (match d with | .bl _ => some false | .int _ => some false | .non => some false | .str _ => some false | .tup _ => some true | .lst _ => some false | _ => none)
  | .dict => (match d with | .bl _ => some false | .int _ => some false | .non => some false | .str _ => some false | .tup _ => some false | .lst _ => some false | _ => none)
def lookD (k : D) (kvs : List (D × D)) : Option D := (kvs.find? fun kv => decide (kv.1 = k)).map (·.2)
def putD (k v : D) (kvs : List (D × D)) : List (D × D) :=
  if (kvs.any fun kv => decide (kv.1 = k)) = true then kvs.map (fun kv => if kv.1 = k then (kv.1, v) else kv) else kvs ++ [(k, v)]
def rngD (a b : Int) : List D := (List.range (b - a).toNat).map fun i => D.int (a + (i : Nat))
def rngC (a b c : Int) : List D := (List.range ((b - a + c - 1) / c).toNat).map fun i => D.int (a + (i : Nat) * c)
/-- a key of a dict whose keys are tuples, are none -/
def okK (t : Bool) (y : D) : Bool := if t = true then (match y with
  | .tup ds => ds.all flatK
  | _ => false) else flatK y
/-- what a walk yields -/
def itD (k : ItK) (vs : List D) : Option (List D) :=
  match k, vs with
  | .seq, [.lst ds] => some ds
  | .seq, [.tup ds] => some ds
  | .seq, [.ktup ds] => some ds
  | .rng1, [.int n] => if -(2 ^ 62) ≤ n ∧ n ≤ sizeLine then some (rngD 0 n) else none
  | .rng2, [.int a, .int b] => if -(2 ^ 61) ≤ a ∧ a < 2 ^ 61 ∧ -(2 ^ 61) ≤ b ∧ b < 2 ^ 61 ∧ b - a ≤ sizeLine then some (rngD a b) else none
  | .rng3, [.int a, .int b, .int c] => if -(2 ^ 61) ≤ a ∧ a < 2 ^ 61 ∧ -(2 ^ 61) ≤ b ∧ b < 2 ^ 61 ∧ 0 < c ∧ c < 2 ^ 30 ∧ b - a ≤ sizeLine then some (rngC a b c) else none
  | .zip, [.lst a, .lst b] => some ((a.zip b).map fun p => .tup [p.1, p.2])
  | .keys, [.dic _ kvs] => some (kvs.map (·.1))
  | .rev, [.lst ds] => some ds.reverse
  | .rev, [.tup ds] => some ds.reverse
  | _, _ => none
mutual
def bindP : Pt → D → Sl → Option Sl
  | .v i, d, ρ => some (ρ.set i (.fz d))
  | .t ps, d, ρ => match d with
    | .tup ds => if ds.length = ps.length then bindPs ps ds ρ else none
    | _ => none
def bindPs : List Pt → List D → Sl → Option Sl
  | [], _, ρ => some ρ
  | p :: ps, d :: ds, ρ => match bindP p d ρ with
    | some ρ' => bindPs ps ds ρ'
    | none => none
  | _ :: _, [], _ => none
end
def killS (ρ : Sl) : List Nat → Sl
  | [] => ρ
  | v :: vs => (killS ρ vs).set v .un
def compL {α : Type} (f : D → Mem → R (Option α)) : List D → Mem → R (List α)
  | [], M => .ok [] M
  | d :: ds, M => (f d M).bind fun o M1 => (compL f ds M1).bind fun r M2 => .ok (match o with | some y => y :: r | none => r) M2
def slotR (ρ : Sl) (i : Nat) : Option D :=
  match ρ[i]? with
  | some (.fz d) => some d
  | _ => none

/-! ### the evaluator -/
structure Cfg where
  call : Nat → List D → Mem → R (Md × D)
  consts : List D
  sub : Nat → Nat → Option Bool
mutual
def hvE (sub : Nat → Nat → Option Bool) (k : Nat) : Hx → Option D
  | .lit d => some d
  | .tup hs => (hvEs sub k hs).map .tup
  | .isi c => (sub k c).map .bl
  | .isv => some (.bl true)
  | .and hs => hvAnd sub k hs
  | .or hs => hvOr sub k hs
  | .not h => match hvE sub k h with
    | some (.bl b) => some (.bl (!b))
    | _ => none
def hvEs (sub : Nat → Nat → Option Bool) (k : Nat) : List Hx → Option (List D)
  | [] => some []
  | h :: hs => match hvE sub k h, hvEs sub k hs with
    | some d, some ds => some (d :: ds)
    | _, _ => none
def hvAnd (sub : Nat → Nat → Option Bool) (k : Nat) : List Hx → Option D
  | [] => none
  | h :: hs => match hvE sub k h with
    | some (.bl b) => match hs with
      | [] => some (.bl b)
      | _ => if b then hvAnd sub k hs else some (.bl false)
    | _ => none
def hvOr (sub : Nat → Nat → Option Bool) (k : Nat) : List Hx → Option D
  | [] => none
  | h :: hs => match hvE sub k h with
    | some (.bl b) => match hs with
      | [] => some (.bl b)
      | _ => if b then some (.bl true) else hvOr sub k hs
    | _ => none
end
def MO.noL : MO → Bool
  | .lst ds => D.noLs ds
  | _ => false
/-- nothing in memory leads to a list -/
def memOk (M : Mem) : Bool := M.all MO.noL
/-- what is looked at gives nothing away -/
def borR {α : Type} (_ : Mem) (ok : α → Bool) (r : R α) : R α :=
  match r with
    | .ok d M1 => if ok d = true ∧ memOk M1 = true then .ok d M1 else .st
    | .ex c M1 => if memOk M1 = true then .ex c M1 else .st
    | .st => .st

/-- a slice's part: left out, or an int -/
def partX (x : Ex) (d : D) : Option (Option Int) :=
  match x with
  | .lit .non => some none
  | _ => (partD d).map some
mutual
def evE (c : Cfg) : Ex → Sl → Mem → R D
  | .var i, ρ, M => match ρ[i]? with
    | some (.fz d) => .ok d M
    | _ => .st
  | .lit d, _, M => .ok d M
  | .glob k, _, M => R.of c.consts[k]? M
  | .tup es, ρ, M => (evEs c es ρ M).bind fun ds M1 => .ok (.tup ds) M1
  | .lst es, ρ, M => (evEs c es ρ M).bind fun ds M1 => .ok (.lst ds) M1
  | .dict0, _, M => .ok (.dic false []) M
  | .bin o a b, ρ, M => (evE c a ρ M).bind fun x M1 => (evE c b ρ M1).bind fun y M2 => R.of (binD o x y) M2
  | .neg a, ρ, M => (evE c a ρ M).bind fun x M1 => match x with
    | .int i => .ok (.int (-i)) M1
    | _ => .st
  | .cmp o a b, ρ, M => (evE c a ρ M).bind fun x M1 => (evE c b ρ M1).bind fun y M2 => R.of (cmpD o x y) M2
  | .chain o o2 a b d, ρ, M => (evE c a ρ M).bind fun x M1 => (evE c b ρ M1).bind fun y M2 => (R.of (cmpD o x y) M2).bind fun t M3 => match t with
    | .bl true => (evE c d ρ M3).bind fun z M4 => R.of (cmpD o2 y z) M4
    | .bl false => .ok (.bl false) M3
    | _ => .st
  | .isN a ng, ρ, M => (evE c a ρ M).bind fun x M1 => .ok (.bl (match x with | .non => !ng | _ => ng)) M1
  | .and es, ρ, M => evAnd c es ρ M
  | .or es, ρ, M => evOr c es ρ M
  | .not a, ρ, M => (evE c a ρ M).bind fun x M1 => (R.of (truth x) M1).bind fun b M2 => .ok (.bl (!b)) M2
  | .ite q a b, ρ, M => (evE c q ρ M).bind fun x M1 => (R.of (truth x) M1).bind fun t M2 => if t then evE c a ρ M2 else evE c b ρ M2
  | .ix a b, ρ, M => (evE c a ρ M).bind fun x M1 => (evE c b ρ M1).bind fun y M2 => R.of (ixD x y) M2
  | .sl a lo hi, ρ, M => (evE c a ρ M).bind fun x M1 => (evE c lo ρ M1).bind fun y M2 => (R.of (partX lo y) M2).bind fun l M3 => (evE c hi ρ M3).bind fun z M4 => (R.of (partX hi z) M4).bind fun u M5 => R.of (slD x l u) M5
  | .call f es, ρ, M => (evEs c es ρ M).bind fun ds M1 => (c.call f ds M1).bind fun r M2 => .ok r.2 M2
  | .blt b es, ρ, M => (evRs c es ρ M).bind fun ds M1 => R.of (bltD b ds) M1
  | .mth m o es, ρ, M => (evE c o ρ M).bind fun x M1 => (evEs c es ρ M1).bind fun ds M2 => match m, x, ds with
    | _, _, _ => .st
  | .isi a t, ρ, M => (evE c a ρ M).bind fun x M1 => (R.of (isiD t x) M1).bind fun b M2 => .ok (.bl b) M2
  | .comp elt p k args conds own, ρ, M => (evEs c args ρ M).bind fun ds M1 => (R.of (itD k ds) M1).bind fun items M2 =>
      ((compL (fun d M3 => match bindP p d (killS ρ own) with
        | some ρ' => (evAll c conds ρ' M3).bind fun b M4 => if b then (evE c elt ρ' M4).bind fun y M5 => .ok (some y) M5 else .ok none M4
        | none => .st) items M2).nox).bind fun r M3 => .ok (.lst r) M3
  | .bor e, ρ, M => borR M D.noL (evE c e (viewS ρ) M)
  | .lrng es, ρ, M => (evEs c es ρ M).bind fun ds M1 => (R.of (itD (if ds.length = 1 then .rng1 else .rng2) ds) M1).bind fun its M2 => .ok (.lst its) M2
  | .dget d k o, ρ, M => (evE c d ρ M).bind fun x M1 => match x with
    | .dic t kvs => (evE c k ρ M1).bind fun y M2 => if okK t y = true then (match o with
        | none => .ok ((lookD y kvs).getD .non) M2
        | some e => (evE c e ρ M2).bind fun z M3 => .ok ((lookD y kvs).getD z) M3) else .st
    | _ => .st
  | .dix d k, ρ, M => (evE c d ρ M).bind fun x M1 => match x with
    | .dic t kvs => (evE c k ρ M1).bind fun y M2 => if okK t y = true then R.of (lookD y kvs) M2 else .st
    | _ => .st
  | .din k d ng, ρ, M => (evE c k ρ M).bind fun y M1 => (evE c d ρ M1).bind fun x M2 => match x with
    | .dic t kvs => if okK t y = true then .ok (.bl ((lookD y kvs).isSome != ng)) M2 else .st
    | _ => .st
  | .comp2 elt p k args conds own p2 k2 args2 conds2 own2, ρ, M => (evEs c args ρ M).bind fun ds M1 => (R.of (itD k ds) M1).bind fun items M2 =>
      ((compL (fun d M3 => match bindP p d (killS ρ own) with
        | some ρ' => (evAll c conds ρ' M3).bind fun b M4 => if b then (evEs c args2 ρ' M4).bind fun ds2 M5 => (R.of (itD k2 ds2) M5).bind fun items2 M6 =>
            (compL (fun d2 M7 => match bindP p2 d2 (killS ρ' own2) with
              | some ρ2 => (evAll c conds2 ρ2 M7).bind fun b2 M8 => if b2 then (evE c elt ρ2 M8).bind fun y M9 => .ok (some y) M9 else .ok none M8
              | none => .st) items2 M6).bind fun r M10 => .ok (some r) M10 else .ok none M4
        | none => .st) items M2).nox).bind fun r M3 => if r.flatten.length ≤ sizeLine then .ok (.lst r.flatten) M3 else .st
def evEs (c : Cfg) : List Ex → Sl → Mem → R (List D)
  | [], _, M => .ok [] M
  | e :: es, ρ, M => (evE c e ρ M).bind fun d M1 => (evEs c es ρ M1).bind fun ds M2 => .ok (d :: ds) M2
def evRs (c : Cfg) : List Ex → Sl → Mem → R (List D)
  | [], _, M => .ok [] M
  | e :: es, ρ, M => (evE c e ρ M).bind fun d M1 => (evRs c es ρ M1).bind fun ds M2 => .ok (d :: ds) M2
def evAnd (c : Cfg) : List Ex → Sl → Mem → R D
  | [], _, _ => .st
  | e :: es, ρ, M => (evE c e ρ M).bind fun d M1 => match es with
    | [] => .ok d M1
    | _ => (R.of (truth d) M1).bind fun t M2 => if t then evAnd c es ρ M2 else .ok d M2
def evOr (c : Cfg) : List Ex → Sl → Mem → R D
  | [], _, _ => .st
  | e :: es, ρ, M => (evE c e ρ M).bind fun d M1 => match es with
    | [] => .ok d M1
    | _ => (R.of (truth d) M1).bind fun t M2 => if t then .ok d M2 else evOr c es ρ M2
/-- a comprehension's tests -/
def evAll (c : Cfg) : List Ex → Sl → Mem → R Bool
  | [], _, M => .ok true M
  | e :: es, ρ, M => (evE c e ρ M).bind fun d M1 => (R.of (truth d) M1).bind fun t M2 => if t then evAll c es ρ M2 else .ok false M2
end
def evT (c : Cfg) (e : Ex) (ρ : Sl) (M : Mem) : R Bool := (evE c e ρ M).bind fun d M1 => R.of (truth d) M1

/-! ### things of one's own -/
/-- the one depth of all lists and dicts among them -/
def joinM (rs : List (Md × D)) : Option Md :=
  match rs.filter (fun r => r.2.isLD) with
  | [] => some .all
  | r :: t => if (t.all fun q => decide (q.1 = r.1)) = true then some r.1 else none
def lstA (rs : List (Md × D)) (M : Mem) : R (Md × D) :=
  match joinM rs with
  | some m => .ok (m.up, .lst (rs.map (·.2))) M
  | none => .st
def frA (d : D) : Option (Md × D) :=
  match d with
  | .lst ds => some (if (ds.all fun d => !d.isLD) = true then (.all, d) else (.s .z, d))
  | _ => none
def ixA (r : Md × D) (k : D) : Option (Md × D) :=
  match r.2, k with
  | .lst ds, .int i => (L2.atI ds i).map fun d => (r.1.dn, d)
  | _, _ => none
/-- a list or a dict of one's own, all in it settled -/
def dnA (r : Md × D) : Option (Md × D) :=
  match r.2 with
  | .dic t kvs => if r.1 = .z then none else some (.s .z, .dic t kvs)
  | .lst ds => if r.1 = .z then none else some (.s .z, .lst ds)
  | _ => none
def okB (r : Md × D) : Bool := r.2.noL || (decide (r.1 = .all) && r.2.tupNoL)
mutual
def evA (c : Cfg) : Ax → Sl → Mem → R (Md × D)
  | .e x, ρ, M => (evE c x ρ M).bind fun d M1 => .ok (Md.z, d) M1
  | .lst as, ρ, M => (evAs c as ρ M).bind fun rs M1 => lstA rs M1
  | .dict0 t, _, M => .ok (.all, .dic t []) M
  | .fr x, ρ, M => (evE c x ρ M).bind fun d M1 => R.of (frA d) M1
  | .call f es, ρ, M => (evEs c es ρ M).bind fun ds M1 => c.call f ds M1
  | .ix a k, ρ, M => (evA c a ρ M).bind fun r M1 => (evE c k ρ M1).bind fun x M2 => R.of (ixA r x) M2
  | .comp elt p k args conds own, ρ, M => (evEs c args ρ M).bind fun ds M1 => (R.of (itD k ds) M1).bind fun items M2 =>
      ((compL (fun d M3 => match bindP p d (killS ρ own) with
        | some ρ' => (evAll c conds ρ' M3).bind fun b M4 => if b then (evA c elt ρ' M4).bind fun y M5 => .ok (some y) M5 else .ok none M4
        | none => .st) items M2).nox).bind fun r M3 => lstA r M3
  | .bor a, ρ, M => borR M okB (evA c a (viewS ρ) M)
  | .dn a, ρ, M => (evA c a ρ M).bind fun r M1 => R.of (dnA r) M1
def evAs (c : Cfg) : List Ax → Sl → Mem → R (List (Md × D))
  | [], _, M => .ok [] M
  | a :: as, ρ, M => (evA c a ρ M).bind fun r M1 => (evAs c as ρ M1).bind fun rs M2 => .ok (r :: rs) M2
end

inductive RS where
  | nx (ρ : Sl) (M : Mem) | rt (d : Md × D) (M : Mem) | bk (ρ : Sl) (M : Mem) | ct (ρ : Sl) (M : Mem) | ex (c : Nat) (ρ : Sl) (M : Mem) | st
def R.to {α : Type} (r : R α) (ρ : Sl) (f : α → Mem → RS) : RS :=
  match r with
  | .ok a M => f a M
  | .ex c M => .ex c ρ M
  | .st => .st
@[simp] theorem R.to_ok {α : Type} (a : α) (M : Mem) (ρ : Sl) (f : α → Mem → RS) : (R.ok a M).to ρ f = f a M := rfl
@[simp] theorem R.to_ex {α : Type} (c : Nat) (M : Mem) (ρ : Sl) (f : α → Mem → RS) : (R.ex c M : R α).to ρ f = .ex c ρ M := rfl
@[simp] theorem R.to_st {α : Type} (ρ : Sl) (f : α → Mem → RS) : (R.st : R α).to ρ f = .st := rfl
def RS.seq (r : RS) (f : Sl → Mem → RS) : RS :=
  match r with
  | .nx ρ M => f ρ M
  | r => r
@[simp] theorem RS.seq_nx (ρ : Sl) (M : Mem) (f : Sl → Mem → RS) : (RS.nx ρ M).seq f = f ρ M := rfl
@[simp] theorem RS.seq_rt (d : Md × D) (M : Mem) (f : Sl → Mem → RS) : (RS.rt d M).seq f = .rt d M := rfl
@[simp] theorem RS.seq_ex (c : Nat) (ρ : Sl) (M : Mem) (f : Sl → Mem → RS) : (RS.ex c ρ M).seq f = .ex c ρ M := rfl
@[simp] theorem RS.seq_bk (ρ : Sl) (M : Mem) (f : Sl → Mem → RS) : (RS.bk ρ M).seq f = .bk ρ M := rfl
@[simp] theorem RS.seq_ct (ρ : Sl) (M : Mem) (f : Sl → Mem → RS) : (RS.ct ρ M).seq f = .ct ρ M := rfl
@[simp] theorem RS.seq_st (f : Sl → Mem → RS) : (RS.st).seq f = .st := rfl
/-- for: a turn's end decides -/
def forL (f : D → Sl → Mem → RS) : List D → Sl → Mem → RS
  | [], ρ, M => .nx ρ M
  | d :: ds, ρ, M => match f d ρ M with
    | .nx ρ' M' => forL f ds ρ' M'
    | .ct ρ' M' => forL f ds ρ' M'
    | .bk ρ' M' => .nx ρ' M'
    | r => r
/-- while, n turns at most -/
def whileL (t : Sl → Mem → R Bool) (f : Sl → Mem → RS) : Nat → Sl → Mem → RS
  | 0, _, _ => .st
  | n + 1, ρ, M => (t ρ M).to ρ fun b M1 => if b then (match f ρ M1 with
      | .nx ρ' M' => whileL t f n ρ' M'
      | .ct ρ' M' => whileL t f n ρ' M'
      | .bk ρ' M' => .nx ρ' M'
      | r => r) else .nx ρ M1
open Classical in
noncomputable def whileW (t : Sl → Mem → R Bool) (f : Sl → Mem → RS) (ρ : Sl) (M : Mem) : RS :=
  if h : ∃ n, whileL t f n ρ M ≠ .st then whileL t f (choose h) ρ M else .st
/-- a slot that holds what came -/
def slM (r : Md × D) : SV := if r.1 = .z ∨ r.2.isLD = false then .fz r.2 else .ow r.1 r.2
/-- the thing on a path -/
def getP : D → List D → Option D
  | d, [] => some d
  | .lst ds, .int j :: ks => match L2.ixN ds.length j with
    | some n => match ds[n]? with
      | some d => getP d ks
      | none => none
    | none => none
  | _, _ => none
/-- the thing on a path, another in its stead -/
def setP : D → List D → D → D
  | _, [], x => x
  | .lst ds, .int j :: ks, x => match L2.ixN ds.length j with
    | some n => match ds[n]? with
      | some d => .lst (ds.set n (setP d ks x))
      | none => .lst ds
    | none => .lst ds
  | d, _, _ => d
/-- how deep it is one's own there -/
def dnP : Md → List D → Md
  | m, [] => m
  | m, _ :: ks => dnP m.dn ks
def pathB (m : Md) (d : D) (ks : List D) : Bool := (match getP d ks with | some (.lst _) => true | _ => false) && !decide (dnP m ks = .z)
/-- something is put into a list whose parts are ds: how deep the list is one's own then -/
def putM (m : Md) (top : Bool) (ds : List D) (r : Md × D) : Option Md :=
  if r.2.isLD = false ∨ r.1 = m.dn then some m
  else if top = true ∧ (ds.all fun d => !d.isLD) = true then some r.1.up else none
/-- the new list -/
def muD (mu : Mu) (k : D) (ds : List D) (y : D) : Option (List D) :=
  match mu, k with
  | .app, _ => if ds.length < sizeLine then some (ds ++ [y]) else none
  | .setk _, .int j => (L2.ixN ds.length j).map fun n => ds.set n y
  | .clear, _ => some []
  | .rev, _ => some ds.reverse
  | .ins _, .int j => if ds.length < sizeLine ∧ 0 ≤ j ∧ j < 2 ^ 63 then some (ds.take j.toNat ++ [y] ++ ds.drop j.toNat) else none
  | _, _ => none
def muK : Mu → Ex
  | .setk k => k
  | .ins k => k
  | _ => .lit .non
/-- the change of a thing whose parts are ds -/
def muR (i : Nat) (m : Md) (d : D) (ks : List D) (mu : Mu) (k : D) (r : Md × D) (ρ : Sl) (M : Mem) : RS :=
  match getP d ks with
  | some (.lst ds) => match putM (dnP m ks) ks.isEmpty ds r, muD mu k ds r.2 with
    | some m', some ds' => .nx (ρ.set i (.ow (if ks.isEmpty then m' else m) (setP d ks (.lst ds')))) M
    | _, _ => .st
  | _ => .st
/-- what is put in -/
def evL (c : Cfg) : El → Sl → Mem → R (Md × D)
  | .a a, ρ, M => evA c a ρ M
  | .mv j, ρ, M => match ρ[j]? with
    | some (.ow m d) => .ok (m, d) M
    | _ => .st
def giveS : El → Sl → Sl
  | .a _, ρ => ρ
  | .mv j, ρ => ρ.set j .un
/-- no error leaves -/
def noexS (r : RS) : RS :=
  match r with
  | .ex _ _ _ => .st
  | r => r
/-- an error comes to the clauses -/
def hdR (sub : Nat → Nat → Option Bool) (k : Nat) : List Hd → Sl → Mem → RS
  | [], ρ, M => .ex k ρ M
  | h :: hs, ρ, M => match sub k h.c with
    | some true => match hvE sub k h.b with
      | some d => .rt (Md.z, d) M
      | none => .st
    | some false => hdR sub k hs ρ M
    | none => .st
def tryR (sub : Nat → Nat → Option Bool) (hs : List Hd) (r : RS) : RS :=
  match r with
  | .ex k ρ M => hdR sub k hs ρ M
  | r => r
mutual
noncomputable def evS (c : Cfg) : Sm → Sl → Mem → RS
  | .asg p e, ρ, M => (evE c e ρ M).to ρ fun d M1 => match bindP p d ρ with
    | some ρ' => .nx ρ' M1
    | none => .st
  | .own i a, ρ, M => (evA c a ρ M).to ρ fun r M1 => .nx (ρ.set i (slM r)) M1
  | .mut i ps mu el, ρ, M => match mu with
    | .setk k => (evL c el ρ M).to ρ fun r M1 => match (giveS el ρ)[i]? with
      | some (.ow m d) => ((evEs c ps (giveS el ρ) M1).nox).to (giveS el ρ) fun ks M2 => if pathB m d ks = true then (evE c k (giveS el ρ) M2).to (giveS el ρ) fun x M3 => muR i m d ks mu x r (giveS el ρ) M3 else .st
      | _ => .st
    | mu => match ρ[i]? with
      | some (.ow m0 d0) => ((evEs c ps ρ M).nox).to ρ fun ks M1 => if pathB m0 d0 ks = true then (evE c (muK mu) ρ M1).to ρ fun x M2 => (evL c el ρ M2).to ρ fun r M3 => (match (giveS el ρ)[i]? with
        | some (.ow m d) => muR i m d ks mu x r (giveS el ρ) M3
        | _ => .st) else .st
      | _ => .st
  | .pop p i ps k, ρ, M => match ρ[i]? with
    | some (.ow m d) => ((evEs c ps ρ M).nox).to ρ fun ks M1 => if pathB m d ks = true then (evE c (k.getD (.lit (.int (-1)))) ρ M1).to ρ fun x M2 => (match getP d ks, x with
        | some (.lst ds), .int j => (match L2.ixN ds.length j with
          | some n => (match ds[n]? with
            | some y => if y.isLD = false ∧ -(2 ^ 63) ≤ j ∧ j < 2 ^ 63 then (match bindP p y (ρ.set i (.ow m (setP d ks (.lst (ds.eraseIdx n))))) with
              | some ρ' => .nx ρ' M2
              | none => .st) else .st
            | none => .st)
          | none => .st)
        | _, _ => .st) else .st
    | _ => .st
  | .aug i o e, ρ, M => match ρ[i]? with
    | some (.fz x) => (evE c e ρ M).to ρ fun y M1 => (R.of (augD o x y) M1).to ρ fun z M2 => .nx (ρ.set i (.fz z)) M2
    | _ => .st
  | .expr e, ρ, M => (evE c e ρ M).to ρ fun _ M1 => .nx ρ M1
  | .ret e, ρ, M => (evE c e ρ M).to ρ fun d M1 => .rt (Md.z, d) M1
  | .retN, _, M => .rt (Md.z, .non) M
  | .retA a, ρ, M => (evA c a ρ M).to ρ fun r M1 => .rt r M1
  | .retV i, ρ, M => match ρ[i]? with
    | some (.ow m d) => .rt (m, d) M
    | some (.fz d) => .rt (Md.z, d) M
    | _ => .st
  | .ifs q a b, ρ, M => (evT c q ρ M).to ρ fun t M1 => if t then evSs c a ρ M1 else evSs c b ρ M1
  | .for_ p k args body, ρ, M => (evEs c args ρ M).to ρ fun ds M1 => (R.of (itD k ds) M1).to ρ fun items M2 =>
      forL (fun d ρ M => match bindP p d ρ with
        | some ρ' => evSs c body ρ' M
        | none => .st) items ρ M2
  | .while_ q body, ρ, M => whileW (evT c q) (evSs c body) ρ M
  | .brk, ρ, M => .bk ρ M
  | .cnt, ρ, M => .ct ρ M
  | .pass, ρ, M => .nx ρ M
  | .raise e, ρ, M => .ex e ρ M
  | .freeze i, ρ, M => match ρ[i]? with
    | some (.ow _ d) => .nx (ρ.set i (.fz d)) M
    | some (.fz _) => .nx ρ M
    | _ => .st
  | .kill is, ρ, M => .nx (killS ρ is) M
  | .try_ body hs, ρ, M => tryR c.sub hs (evSs c body ρ M)
  | .forK p i body, ρ, M => match ρ[i]? with
    | some (.fz (.dic _ kvs)) => noexS (forL (fun d ρ M => match bindP p d ρ with
        | some ρ' => evSs c body ρ' M
        | none => .st) (kvs.map (·.1)) ρ M)
    | _ => .st
  | .popS i ps k, ρ, M => match ρ[i]? with
    | some (.ow m d) => ((evEs c ps ρ M).nox).to ρ fun ks M1 => if pathB m d ks = true then (evE c (k.getD (.lit (.int (-1)))) ρ M1).to ρ fun x M2 => (match getP d ks, x with
        | some (.lst ds), .int j => (match L2.ixN ds.length j with
          | some n => if -(2 ^ 63) ≤ j ∧ j < 2 ^ 63 then .nx (ρ.set i (.ow m (setP d ks (.lst (ds.eraseIdx n))))) M2 else .st
          | none => .st)
        | _, _ => .st) else .st
    | _ => .st
  | .clr a, ρ, M => (evA c a ρ M).to ρ fun r M1 => match r with
    | (.z, _) => .st
    | (_, .lst _) => .nx ρ M1
    | _ => .st
  | .dset i k v, ρ, M => match ρ[i]? with
    | some (.ow m (.dic t kvs)) => if m = .s .z then (evE c v ρ M).to ρ fun x M1 => (evE c k ρ M1).to ρ fun y M2 => if kvs.length < sizeLine ∧ okK t y = true then .nx (ρ.set i (.ow (.s .z) (.dic t (putD y x kvs)))) M2 else .st else .st
    | _ => .st
noncomputable def evSs (c : Cfg) : List Sm → Sl → Mem → RS
  | [], ρ, M => .nx ρ M
  | s :: r, ρ, M => (evS c s ρ M).seq fun ρ' M' => evSs c r ρ' M'
end

/-! ### programs -/
structure Fn where
  np : Nat
  ns : Nat
  body : List Sm
structure Prog where
  fns : List Fn
  consts : List D
  subs : List (Nat × Nat × Bool)
def Prog.sub (P : Prog) (k c : Nat) : Option Bool := (P.subs.find? fun t => decide (t.1 = k) && decide (t.2.1 = c)).map (·.2.2)
def startS (ns : Nat) (ds : List D) : Sl := ds.map .fz ++ List.replicate (ns - ds.length) .un
noncomputable def callN (P : Prog) : Nat → Nat → List D → Mem → R (Md × D)
  | 0, _, _, _ => .st
  | n + 1, f, ds, M => match P.fns[f]? with
    | some F => if ds.length = F.np then (match evSs ⟨callN P n, P.consts, P.sub⟩ F.body (startS F.ns ds) M with
      | .nx _ M' => .ok (Md.z, .non) M'
      | .rt d M' => .ok d M'
      | .ex c _ M' => .ex c M'
      | _ => .st) else .st
    | none => .st
noncomputable abbrev cfgN (P : Prog) (n : Nat) : Cfg := ⟨callN P n, P.consts, P.sub⟩
end VL
/-! V1: how data lies in the heap -/
namespace VL
open PySem PySem.Spec PyProof.Rows L2

def keyD : Key → D
  | .inl i => .int i
  | .inr s => .str s
def tkeyD (ks : List Key) : D := .tup (ks.map keyD)
/-- a dict at a, its keys as data -/
def DicAt (F : Hp) (a : Addr) : Bool → List (D × V) → Prop
  | false, l => ∃ kvs, F a = some (.dK kvs) ∧ l = kvs.map fun p => (keyD p.1, p.2)
  | true, l => ∃ kvs, F a = some (.dT kvs) ∧ l = kvs.map fun p => (tkeyD p.1, p.2)
section
variable (K : PySem.W.Frag) (ι : List Addr) (F : Hp)
mutual
inductive Rep : V → D → Prop
  | non : Rep .non .non
  | bl (b : Bool) : Rep (.bl b) (.bl b)
  | int (i : Int) : Rep (.int i) (.int i)
  | str (s : Str) : Rep (.str s) (.str s)
  | tup {a : Addr} {vs : List V} {ds : List D} : F a = some (.tup vs) → Reps vs ds → Rep (.ref a) (.tup ds)
  | ktup {a : Addr} {vs : List V} {ds : List D} : SqT K F a vs → Reps vs ds → Rep (.ref a) (.ktup ds)
  | lst {a : Addr} {vs : List V} {ds : List D} : SqL K F a vs → Reps vs ds → Rep (.ref a) (.lst ds)
  | dic {a : Addr} {t : Bool} {l : List (D × V)} {kds : List (D × D)} : DicAt F a t l → RepK l kds → Rep (.ref a) (.dic t kds)
  | ref {n : Nat} {a : Addr} : ι[n]? = some a → Rep (.ref a) (.ref n)
inductive Reps : List V → List D → Prop
  | nil : Reps [] []
  | cons {v : V} {d : D} {vs : List V} {ds : List D} : Rep v d → Reps vs ds → Reps (v :: vs) (d :: ds)
inductive RepK : List (D × V) → List (D × D) → Prop
  | nil : RepK [] []
  | cons {k : D} {v : V} {d : D} {l : List (D × V)} {m : List (D × D)} : Rep v d → RepK l m → RepK ((k, v) :: l) ((k, d) :: m)
end
end
section
variable {K : PySem.W.Frag} {ι ι' ι1 ι2 : List Addr} {F F' F1 F2 H H' H1 H2 : Hp}
theorem Rd.mono {a : Addr} {u : HO} (hF : ∀ a u, F a = some u → F' a = some u) (h : Rd F a u) : Rd F' a u := by
  rcases h with h | ⟨o, h⟩
  · exact .inl (hF _ _ h)
  · exact .inr ⟨o, hF _ _ h⟩
theorem SqL.mono {a : Addr} {xs : List V} (hF : ∀ a u, F a = some u → F' a = some u) (h : SqL K F a xs) : SqL K F' a xs := by
  rcases h with (h | ⟨o, h⟩) | h
  · exact .inl (.inl (hF _ _ h))
  · exact .inl (.inr ⟨o, hF _ _ h⟩)
  · exact .inr h
theorem SqT.mono {a : Addr} {xs : List V} (hF : ∀ a u, F a = some u → F' a = some u) (h : SqT K F a xs) : SqT K F' a xs := by
  rcases h with (h | ⟨o, h⟩) | h
  · exact .inl (.inl (hF _ _ h))
  · exact .inl (.inr ⟨o, hF _ _ h⟩)
  · exact .inr h
theorem DicAt.mono {a : Addr} {t : Bool} {l : List (D × V)} (hF : ∀ a u, F a = some u → F' a = some u) (h : DicAt F a t l) : DicAt F' a t l := by
  cases t <;> (obtain ⟨k, h, e⟩ := h; exact ⟨k, hF _ _ h, e⟩)
mutual
theorem Rep.mono (hι : ∀ (n : Nat) a, ι[n]? = some a → ι'[n]? = some a) (hF : ∀ a u, F a = some u → F' a = some u) : ∀ {v : V} {d : D}, Rep K ι F v d → Rep K ι' F' v d
  | _, _, .non => .non
  | _, _, .bl b => .bl b
  | _, _, .int i => .int i
  | _, _, .str s => .str s
  | _, _, .tup h r => .tup (hF _ _ h) (Reps.mono hι hF r)
  | _, _, .ktup h r => .ktup (SqT.mono hF h) (Reps.mono hι hF r)
  | _, _, .lst h r => .lst (SqL.mono hF h) (Reps.mono hι hF r)
  | _, _, .dic h r => .dic (h.mono hF) (RepK.mono hι hF r)
  | _, _, .ref h => .ref (hι _ _ h)
theorem Reps.mono (hι : ∀ (n : Nat) a, ι[n]? = some a → ι'[n]? = some a) (hF : ∀ a u, F a = some u → F' a = some u) : ∀ {v : List V} {d : List D}, Reps K ι F v d → Reps K ι' F' v d
  | _, _, .nil => .nil
  | _, _, .cons h r => .cons (Rep.mono hι hF h) (Reps.mono hι hF r)
theorem RepK.mono (hι : ∀ (n : Nat) a, ι[n]? = some a → ι'[n]? = some a) (hF : ∀ a u, F a = some u → F' a = some u) : ∀ {v : List (D × V)} {d : List (D × D)}, RepK K ι F v d → RepK K ι' F' v d
  | _, _, .nil => .nil
  | _, _, .cons h r => .cons (Rep.mono hι hF h) (RepK.mono hι hF r)
end
theorem Reps.length : ∀ {vs : List V} {ds : List D}, Reps K ι F vs ds → vs.length = ds.length
  | _, _, .nil => rfl
  | _, _, .cons _ r => congrArg (· + 1) r.length
theorem Reps.get : ∀ {vs : List V} {ds : List D} {i : Nat} {d : D}, Reps K ι F vs ds → ds[i]? = some d → ∃ v, vs[i]? = some v ∧ Rep K ι F v d
  | _, _, i, _, .nil, h => by simp at h
  | _, _, 0, _, .cons r _, h => by
    simp only [List.getElem?_cons_zero, Option.some.injEq] at h
    subst h; exact ⟨_, rfl, r⟩
  | _, _, i + 1, _, .cons _ r, h => by
    simp only [List.getElem?_cons_succ] at h
    obtain ⟨v, e, q⟩ := r.get h
    exact ⟨v, by simpa using e, q⟩
theorem Reps.getV : ∀ {vs : List V} {ds : List D} {i : Nat} {v : V}, Reps K ι F vs ds → vs[i]? = some v → ∃ d, ds[i]? = some d ∧ Rep K ι F v d
  | _, _, i, _, .nil, h => by simp at h
  | _, _, 0, _, .cons r _, h => by
    simp only [List.getElem?_cons_zero, Option.some.injEq] at h
    subst h; exact ⟨_, rfl, r⟩
  | _, _, i + 1, _, .cons _ r, h => by
    simp only [List.getElem?_cons_succ] at h
    obtain ⟨v, e, q⟩ := r.getV h
    exact ⟨v, by simpa using e, q⟩
theorem Reps.append : ∀ {vs ws : List V} {ds es : List D}, Reps K ι F vs ds → Reps K ι F ws es → Reps K ι F (vs ++ ws) (ds ++ es)
  | _, _, _, _, .nil, q => q
  | _, _, _, _, .cons r s, q => .cons r (s.append q)
theorem Reps.take : ∀ {vs : List V} {ds : List D} (n : Nat), Reps K ι F vs ds → Reps K ι F (vs.take n) (ds.take n)
  | _, _, 0, _ => by simpa using Reps.nil
  | _, _, _ + 1, .nil => by simpa using Reps.nil
  | _, _, n + 1, .cons r s => by simpa using Reps.cons r (s.take n)
theorem Reps.drop : ∀ {vs : List V} {ds : List D} (n : Nat), Reps K ι F vs ds → Reps K ι F (vs.drop n) (ds.drop n)
  | _, _, 0, h => by simpa using h
  | _, _, _ + 1, .nil => by simpa using Reps.nil
  | _, _, n + 1, .cons r s => by simpa using s.drop n
theorem Reps.set {v : V} {d : D} (q : Rep K ι F v d) : ∀ {vs : List V} {ds : List D} (n : Nat), Reps K ι F vs ds → Reps K ι F (vs.set n v) (ds.set n d)
  | _, _, _, .nil => by simpa using Reps.nil
  | _, _, 0, .cons r s => by simpa using Reps.cons q s
  | _, _, n + 1, .cons r s => by simpa using Reps.cons r (s.set q n)
theorem Reps.reverse : ∀ {vs : List V} {ds : List D}, Reps K ι F vs ds → Reps K ι F vs.reverse ds.reverse
  | _, _, .nil => .nil
  | _, _, .cons r s => by simpa using s.reverse.append (.cons r .nil)

/-! ### what lies there -/
def isDicO : HO → Bool
  | .dK _ => true
  | .dT _ => true
  | _ => false
/-- the settled part is there; a dict of it may be locked -/
def FSub (F H : Hp) : Prop := ∀ a u, F a = some u → H a = some u ∨ (isDicO u = true ∧ ∃ o, H a = some (.frz o u))
theorem FSub.isSome {a : Addr} {u : HO} (h : FSub F H) (e : F a = some u) : H a ≠ none := by
  rcases h a u e with q | ⟨_, o, q⟩ <;> (rw [q]; exact fun z => by cases z)
theorem FSub.sqL {a : Addr} {xs : List V} (h : FSub F H) (q : SqL K F a xs) : SqL K H a xs := by
  rcases q with (q | ⟨o, q⟩) | q
  · rcases h _ _ q with r | ⟨r, _⟩
    · exact .inl (.inl r)
    · cases r
  · rcases h _ _ q with r | ⟨r, _⟩
    · exact .inl (.inr ⟨o, r⟩)
    · cases r
  · exact .inr q
theorem FSub.rdL {a : Addr} {xs : List V} (h : FSub F H) (q : Rd F a (.lst xs)) : Rd H a (.lst xs) := by
  rcases q with q | ⟨o, q⟩
  · rcases h _ _ q with r | ⟨r, _⟩
    · exact .inl r
    · cases r
  · rcases h _ _ q with r | ⟨r, _⟩
    · exact .inr ⟨o, r⟩
    · cases r
theorem FSub.sqT {a : Addr} {xs : List V} (h : FSub F H) (q : SqT K F a xs) : SqT K H a xs := by
  rcases q with (q | ⟨o, q⟩) | q
  · rcases h _ _ q with r | ⟨r, _⟩
    · exact .inl (.inl r)
    · cases r
  · rcases h _ _ q with r | ⟨r, _⟩
    · exact .inl (.inr ⟨o, r⟩)
    · cases r
  · exact .inr q
/-- a list or a dict of its own -/
def OwRep (K : PySem.W.Frag) (ι : List Addr) (F H : Hp) (a : Addr) : D → Prop
  | .lst ds => ∃ vs, H a = some (.lst vs) ∧ Reps K ι F vs ds
  | .dic t kds => ∃ l, DicAt H a t l ∧ RepK K ι F l kds
  | _ => False
def MORep (K : PySem.W.Frag) (ι : List Addr) (F H : Hp) (a : Addr) : MO → Prop
  | .lst ds => OwRep K ι F H a (.lst ds)
  | .dic kds => OwRep K ι F H a (.dic false kds)
  | .ins _ _ => False
structure MemRep (K : PySem.W.Frag) (ι : List Addr) (F : Hp) (M : Mem) (H : Hp) : Prop where
  len : ι.length = M.length
  nd : ι.Nodup
  at_ : ∀ (n : Nat) (a : Addr) (mo : MO), ι[n]? = some a → M[n]? = some mo → F a = none ∧ MORep K ι F H a mo
theorem OwRep.isSome {a : Addr} {d : D} (h : OwRep K ι F H a d) : H a ≠ none := by
  cases d with
  | lst ds => obtain ⟨vs, e, _⟩ := h; rw [e]; exact fun z => by cases z
  | dic t ds =>
    obtain ⟨l, e, _⟩ := h
    cases t <;> (obtain ⟨k, e, _⟩ := e; rw [e]; exact fun z => by cases z)
  | _ => exact False.elim h
theorem OwRep.mono {a : Addr} {d : D} (hι : ∀ (n : Nat) a, ι[n]? = some a → ι'[n]? = some a) (hF : ∀ a u, F a = some u → F' a = some u) (hH : ∀ u, H a = some u → H' a = some u) (h : OwRep K ι F H a d) : OwRep K ι' F' H' a d := by
  cases d with
  | lst ds => obtain ⟨vs, e, r⟩ := h; exact ⟨vs, hH _ e, r.mono hι hF⟩
  | dic t ds =>
    obtain ⟨l, e, r⟩ := h
    refine ⟨l, ?_, r.mono hι hF⟩
    cases t <;> (obtain ⟨k, e, z⟩ := e; exact ⟨k, hH _ e, z⟩)
  | _ => exact False.elim h
theorem MORep.mono {a : Addr} {m : MO} (hι : ∀ (n : Nat) a, ι[n]? = some a → ι'[n]? = some a) (hF : ∀ a u, F a = some u → F' a = some u) (hH : ∀ u, H a = some u → H' a = some u) (h : MORep K ι F H a m) : MORep K ι' F' H' a m := by
  cases m with
  | lst ds => exact OwRep.mono (d := .lst ds) hι hF hH h
  | dic ds => exact OwRep.mono (d := .dic false ds) hι hF hH h
  | ins _ _ => exact h
theorem MORep.isSome {a : Addr} {m : MO} (h : MORep K ι F H a m) : H a ≠ none := by
  cases m with
  | lst ds => exact OwRep.isSome (d := .lst ds) h
  | dic ds => exact OwRep.isSome (d := .dic false ds) h
  | ins _ _ => exact False.elim h
theorem MORep.notup {a : Addr} {m : MO} {ts : List V} (h : MORep K ι F H a m) (e : H a = some (.tup ts)) : False := by
  cases m with
  | lst ds => obtain ⟨vs, z, _⟩ := h; rw [e] at z; cases z
  | dic ds => obtain ⟨l, ⟨k, z, _⟩, _⟩ := h; rw [e] at z; cases z
  | ins _ _ => exact h
theorem MemRep.there {M : Mem} (m : MemRep K ι F M H) {a : Addr} (h : a ∈ ι) : H a ≠ none ∧ F a = none := by
  obtain ⟨n, hn, e⟩ := List.getElem_of_mem h
  have hm : n < M.length := by rw [← m.len]; exact hn
  obtain ⟨q, r⟩ := m.at_ n a M[n] (by rw [List.getElem?_eq_getElem hn, e]) (List.getElem?_eq_getElem hm)
  exact ⟨r.isSome, q⟩

def ldO : HO → Bool
  | .lst _ => true
  | .dK _ => true
  | .dT _ => true
  | _ => false
/-- a list or a dict stands there -/
structure Ld (H : Hp) (a : Addr) : Prop where
  ex : ∃ u, H a = some u ∧ ldO u = true
theorem Ld.ne {a : Addr} (h : Ld H a) : H a ≠ none := by
  obtain ⟨u, e, _⟩ := h.ex
  rw [e]; exact fun z => by cases z
theorem Ld.mk_ {a : Addr} {u : HO} (h : H a = some u) (l : ldO u = true) : Ld H a := ⟨⟨u, h, l⟩⟩
theorem Ld.to {a : Addr} (h : Ld H a) (q : ∀ u, H a = .some u → H' a = .some u) : Ld H' a := let ⟨u, e, l⟩ := h.ex; ⟨⟨u, q _ e, l⟩⟩
theorem Ld.us {a : Addr} {o : HO} (l : ldO o = true := by rfl) : Ld (upd H a o) a := ⟨⟨o, upd_same, l⟩⟩
theorem Ld.upd {a p : Addr} {o : HO} (h : Ld H a) (n : a ≠ p) : Ld (L2.upd H p o) a := h.to fun u e => by rw [upd_ne n]; exact e
theorem Ld.any {a b : Addr} {o : HO} (h : Ld H b) (l : Ld (L2.upd H a o) a) : Ld (L2.upd H a o) b := by
  by_cases e : b = a
  · rw [e]; exact l
  · exact h.upd e
theorem DicAt.ld {a : Addr} {t : Bool} {l : List (D × V)} (h : DicAt H a t l) : Ld H a := by
  cases t <;> (obtain ⟨k, h, e⟩ := h; exact ⟨⟨_, h, rfl⟩⟩)
theorem OwRep.ld {K : PySem.W.Frag} {ι : List Addr} {a : Addr} {d : D} (h : OwRep K ι F H a d) : Ld H a := by
  cases d with
  | lst ds => obtain ⟨vs, e, _⟩ := h; exact ⟨⟨_, e, rfl⟩⟩
  | dic t ds =>
    obtain ⟨l, e, _⟩ := h
    cases t <;> (obtain ⟨k, e, _⟩ := e; exact ⟨⟨_, e, rfl⟩⟩)
  | _ => exact False.elim h
/-- what an expression may do to the heap -/
structure Stp (ι : List Addr) (F H : Hp) (ι' : List Addr) (F' H' : Hp) : Prop where
  pre : ∃ more, ι' = ι ++ more ∧ ∀ a ∈ more, H a = none
  subF : ∀ a u, F a = some u → F' a = some u
  newF : ∀ a, Ld H a → a ∉ ι → F a = none → F' a = none
  keep : ∀ a u, H a = some u → a ∉ ι → H' a = some u
  live : ∀ a, H a ≠ none → H' a ≠ none
theorem Stp.refl : Stp ι F H ι F H := ⟨⟨[], by simp, by simp⟩, fun _ _ h => h, fun _ _ _ h => h, fun _ _ h _ => h, fun _ h => h⟩
theorem Stp.ix (s : Stp ι F H ι' F' H') : ∀ (n : Nat) a, ι[n]? = some a → ι'[n]? = some a := by
  obtain ⟨m, e, _⟩ := s.pre
  intro n a h
  rw [e, List.getElem?_append_left]
  · exact h
  · exact (List.getElem?_eq_some_iff.mp h).1
theorem Stp.nin (s : Stp ι F H ι' F' H') {a : Addr} (h : a ∉ ι) (q : H a ≠ none) : a ∉ ι' := by
  obtain ⟨m, e, f⟩ := s.pre
  rw [e, List.mem_append]
  rintro (z | z)
  · exact h z
  · exact q (f _ z)
theorem Stp.trans (s : Stp ι F H ι1 F1 H1) (t : Stp ι1 F1 H1 ι2 F2 H2) : Stp ι F H ι2 F2 H2 := by
  refine ⟨?_, fun a u h => t.subF a u (s.subF a u h), fun a h n e => t.newF a (h.to fun u q => s.keep a u q n) (s.nin n h.ne) (s.newF a h n e), fun a u h n => t.keep a u (s.keep a u h n) (s.nin n (by rw [h]; exact fun z => by cases z)), fun a h => t.live a (s.live a h)⟩
  · obtain ⟨m, e, f⟩ := s.pre
    obtain ⟨m', e', f'⟩ := t.pre
    refine ⟨m ++ m', by rw [e', e, List.append_assoc], fun a h => ?_⟩
    rcases List.mem_append.mp h with z | z
    · exact f a z
    · have q := f' a z
      by_cases hh : H a = none
      · exact hh
      · exact absurd q (s.live a hh)
theorem Stp.rep (s : Stp ι F H ι' F' H') {v : V} {d : D} (h : Rep K ι F v d) : Rep K ι' F' v d := h.mono s.ix s.subF
theorem Stp.reps (s : Stp ι F H ι' F' H') {v : List V} {d : List D} (h : Reps K ι F v d) : Reps K ι' F' v d := h.mono s.ix s.subF
theorem Stp.ow (s : Stp ι F H ι' F' H') {a : Addr} {d : D} (h : OwRep K ι F H a d) (n : a ∉ ι) : OwRep K ι' F' H' a d := h.mono s.ix s.subF fun u e => s.keep a u e n
/-- a new settled object -/
theorem new_ok {M : Mem} {p : Addr} {o : HO} (f : FSub F H) (m : MemRep K ι F M H) (hp : H p = none) :
    Stp ι F H ι (upd F p o) (upd H p o) ∧ FSub (upd F p o) (upd H p o) ∧ MemRep K ι (upd F p o) M (upd H p o) := by
  have hFp : F p = none := by
    cases e : F p with
    | none => rfl
    | some u => exact absurd hp (f.isSome e)
  have st : Stp ι F H ι (upd F p o) (upd H p o) := by
    refine ⟨⟨[], by simp, by simp⟩, fun a u h => ?_, fun a h _ e => ?_, fun a u h _ => ?_, fun a h => ?_⟩
    · rw [upd_ne (ne_of_none h hFp)]; exact h
    · rw [upd_ne (fun z => h.ne (by rw [z]; exact hp))]; exact e
    · rw [upd_ne (ne_of_none h hp)]; exact h
    · by_cases e : a = p
      · subst e; rw [upd_same]; exact fun z => by cases z
      · rw [upd_ne e]; exact h
  refine ⟨st, fun a u h => ?_, m.len, m.nd, fun n a mo h1 h2 => ?_⟩
  · by_cases e : a = p
    · subst e; rw [upd_same] at h ⊢; exact .inl h
    · rw [upd_ne e] at h ⊢; exact f a u h
  · obtain ⟨q, r⟩ := m.at_ n a mo h1 h2
    have ne : a ≠ p := fun e => r.isSome (by rw [e]; exact hp)
    exact ⟨by rw [upd_ne ne]; exact q, r.mono st.ix st.subF fun u e => by rw [upd_ne ne]; exact e⟩

/-! ### things of one's own -/
section
variable (K : PySem.W.Frag) (ι : List Addr) (F H : Hp)
mutual
/-- v stands for d, the lists and dicts of which lie in S, each by itself, to the depth m -/
inductive DRep : Md → V → D → (Addr → Prop) → Prop
  | fz {m : Md} {v : V} {d : D} {S : Addr → Prop} : Rep K ι F v d → (m = .z ∨ d.isLD = false) → DRep m v d S
  | lst {m : Md} {a : Addr} {vs : List V} {ds : List D} {S T : Addr → Prop} : m ≠ .z → H a = some (.lst vs) → S a → ¬ T a → (∀ b, T b → S b) → DReps m.dn vs ds T → DRep m (.ref a) (.lst ds) S
  | dic {m : Md} {a : Addr} {t : Bool} {l : List (D × V)} {ds : List (D × D)} {S T : Addr → Prop} : m ≠ .z → DicAt H a t l → S a → ¬ T a → (∀ b, T b → S b) → DRepk m.dn l ds T → DRep m (.ref a) (.dic t ds) S
inductive DReps : Md → List V → List D → (Addr → Prop) → Prop
  | nil {m : Md} {S : Addr → Prop} : DReps m [] [] S
  | cons {m : Md} {v : V} {d : D} {vs : List V} {ds : List D} {S A B : Addr → Prop} : DRep m v d A → DReps m vs ds B → (∀ a, A a → S a) → (∀ a, B a → S a) → (∀ a, A a → ¬ B a) → DReps m (v :: vs) (d :: ds) S
inductive DRepk : Md → List (D × V) → List (D × D) → (Addr → Prop) → Prop
  | nil {m : Md} {S : Addr → Prop} : DRepk m [] [] S
  | cons {m : Md} {k : D} {v : V} {d : D} {vs : List (D × V)} {ds : List (D × D)} {S A B : Addr → Prop} : DRep m v d A → DRepk m vs ds B → (∀ a, A a → S a) → (∀ a, B a → S a) → (∀ a, A a → ¬ B a) → DRepk m ((k, v) :: vs) ((k, d) :: ds) S
end
end
theorem DicAt.at_ {a : Addr} {t : Bool} {l : List (D × V)} (h : DicAt H a t l) : ∃ u, H a = some u := by
  cases t <;> (obtain ⟨k, h, e⟩ := h; exact ⟨_, h⟩)
theorem DicAt.to {a : Addr} {t : Bool} {l : List (D × V)} (h : DicAt H a t l) (q : ∀ u, H a = some u → H' a = some u) : DicAt H' a t l := by
  cases t <;> (obtain ⟨k, h, e⟩ := h; exact ⟨k, q _ h, e⟩)
mutual
theorem DRep.mono (hι : ∀ (n : Nat) a, ι[n]? = some a → ι'[n]? = some a) (hF : ∀ a u, F a = some u → F' a = some u) : ∀ {m : Md} {v : V} {d : D} {S S' : Addr → Prop}, DRep K ι F H m v d S → (∀ a, S a → S' a ∧ ∀ u, H a = some u → H' a = some u) → DRep K ι' F' H' m v d S'
  | _, _, _, _, _, .fz r e, _ => .fz (r.mono hι hF) e
  | _, _, _, _, _, .lst n e s t ts r, q => .lst n ((q _ s).2 _ e) (q _ s).1 t (fun b h => (q _ (ts b h)).1) (DReps.mono hι hF r fun b h => ⟨h, (q _ (ts b h)).2⟩)
  | _, _, _, _, _, .dic n e s t ts r, q => .dic n (e.to (q _ s).2) (q _ s).1 t (fun b h => (q _ (ts b h)).1) (DRepk.mono hι hF r fun b h => ⟨h, (q _ (ts b h)).2⟩)
theorem DReps.mono (hι : ∀ (n : Nat) a, ι[n]? = some a → ι'[n]? = some a) (hF : ∀ a u, F a = some u → F' a = some u) : ∀ {m : Md} {v : List V} {d : List D} {S S' : Addr → Prop}, DReps K ι F H m v d S → (∀ a, S a → S' a ∧ ∀ u, H a = some u → H' a = some u) → DReps K ι' F' H' m v d S'
  | _, _, _, _, _, .nil, _ => .nil
  | _, _, _, _, _, .cons h r a b c, q => .cons (DRep.mono hι hF h fun x hx => ⟨hx, (q _ (a x hx)).2⟩) (DReps.mono hι hF r fun x hx => ⟨hx, (q _ (b x hx)).2⟩) (fun x hx => (q _ (a x hx)).1) (fun x hx => (q _ (b x hx)).1) c
theorem DRepk.mono (hι : ∀ (n : Nat) a, ι[n]? = some a → ι'[n]? = some a) (hF : ∀ a u, F a = some u → F' a = some u) : ∀ {m : Md} {v : List (D × V)} {d : List (D × D)} {S S' : Addr → Prop}, DRepk K ι F H m v d S → (∀ a, S a → S' a ∧ ∀ u, H a = some u → H' a = some u) → DRepk K ι' F' H' m v d S'
  | _, _, _, _, _, .nil, _ => .nil
  | _, _, _, _, _, .cons h r a b c, q => .cons (DRep.mono hι hF h fun x hx => ⟨hx, (q _ (a x hx)).2⟩) (DRepk.mono hι hF r fun x hx => ⟨hx, (q _ (b x hx)).2⟩) (fun x hx => (q _ (a x hx)).1) (fun x hx => (q _ (b x hx)).1) c
end
theorem DicAt.toL {a : Addr} {t : Bool} {l : List (D × V)} (h : DicAt H a t l) (q : ∀ u, H a = some u → ldO u = true → H' a = some u) : DicAt H' a t l := by
  cases t <;> (obtain ⟨k, h, e⟩ := h; exact ⟨k, q _ h rfl, e⟩)
mutual
/-- all of it is settled -/
theorem DRep.settle (hF : ∀ a u, F a = some u → F' a = some u) : ∀ {m : Md} {v : V} {d : D} {S : Addr → Prop}, DRep K ι F H m v d S → (∀ a u, S a → H a = some u → ldO u = true → F' a = some u) → Rep K ι F' v d
  | _, _, _, _, .fz r e, _ => r.mono (fun _ _ h => h) hF
  | _, _, _, _, .lst n e s t ts r, q => .lst (.inl (.inl (q _ _ s e rfl))) (DReps.settle hF r fun a u h => q a u (ts a h))
  | _, _, _, _, .dic n e s t ts r, q => .dic (e.toL fun u h => q _ u s h) (DRepk.settle hF r fun a u h => q a u (ts a h))
theorem DReps.settle (hF : ∀ a u, F a = some u → F' a = some u) : ∀ {m : Md} {v : List V} {d : List D} {S : Addr → Prop}, DReps K ι F H m v d S → (∀ a u, S a → H a = some u → ldO u = true → F' a = some u) → Reps K ι F' v d
  | _, _, _, _, .nil, _ => .nil
  | _, _, _, _, .cons h r a b c, q => .cons (DRep.settle hF h fun x u hx => q x u (a x hx)) (DReps.settle hF r fun x u hx => q x u (b x hx))
theorem DRepk.settle (hF : ∀ a u, F a = some u → F' a = some u) : ∀ {m : Md} {v : List (D × V)} {d : List (D × D)} {S : Addr → Prop}, DRepk K ι F H m v d S → (∀ a u, S a → H a = some u → ldO u = true → F' a = some u) → RepK K ι F' v d
  | _, _, _, _, .nil, _ => .nil
  | _, _, _, _, .cons h r a b c, q => .cons (DRep.settle hF h fun x u hx => q x u (a x hx)) (DRepk.settle hF r fun x u hx => q x u (b x hx))
end
theorem DReps.length : ∀ {m : Md} {v : List V} {d : List D} {S : Addr → Prop}, DReps K ι F H m v d S → v.length = d.length
  | _, _, _, _, .nil => rfl
  | _, _, _, _, .cons _ r _ _ _ => congrArg (· + 1) r.length
theorem DRep.flat {m : Md} {v : V} {d : D} {S : Addr → Prop} (h : DRep K ι F H m v d S) (e : m = .z ∨ d.isLD = false) : Rep K ι F v d := by
  cases h with
  | fz r _ => exact r
  | lst n _ _ _ _ _ => rcases e with e | e; exact absurd e n; cases e
  | dic n _ _ _ _ _ => rcases e with e | e; exact absurd e n; cases e
theorem DReps.flat : ∀ {m : Md} {v : List V} {d : List D} {S : Addr → Prop}, DReps K ι F H m v d S → (m = .z ∨ ∀ x ∈ d, x.isLD = false) → Reps K ι F v d
  | _, _, _, _, .nil, _ => .nil
  | _, _, _, _, .cons h r _ _ _, e => .cons (h.flat (e.imp id fun e => e _ List.mem_cons_self)) (r.flat (e.imp id fun e x hx => e x (List.mem_cons_of_mem _ hx)))
/-- settled parts -/
theorem DReps.of {m : Md} {S : Addr → Prop} : ∀ {v : List V} {d : List D}, Reps K ι F v d → (m = .z ∨ ∀ x ∈ d, x.isLD = false) → DReps K ι F H m v d S
  | _, _, .nil, _ => .nil
  | _, _, .cons h r, e => .cons (A := fun _ => False) (B := S) (.fz h (e.imp id fun e => e _ List.mem_cons_self)) (DReps.of r (e.imp id fun e x hx => e x (List.mem_cons_of_mem _ hx))) (fun _ h => h.elim) (fun _ h => h) (fun _ h => h.elim)
/-- new nodes -/
structure New (ι : List Addr) (F H0 H : Hp) (T : Addr → Prop) : Prop where
  at_ : ∀ a, T a → F a = none ∧ a ∉ ι ∧ H0 a = none ∧ Ld H a
theorem Stp.drep (s : Stp ι F H ι' F' H') {m : Md} {v : V} {d : D} {T : Addr → Prop} (h : DRep K ι F H m v d T) (n : ∀ a, T a → a ∉ ι) : DRep K ι' F' H' m v d T :=
  h.mono s.ix s.subF fun a ha => ⟨ha, fun u e => s.keep a u e (n a ha)⟩
theorem Stp.noneF (s : Stp ι F H ι' F' H') {a : Addr} (h : F a = .none) (q : Ld H a) (n : a ∉ ι) : F' a = .none := s.newF a q n h
theorem Stp.ld (s : Stp ι F H ι' F' H') {a : Addr} (q : Ld H a) (n : a ∉ ι) : Ld H' a := q.to fun u e => s.keep a u e n
theorem Stp.new_ {H0 : Hp} {T : Addr → Prop} (s : Stp ι F H ι' F' H') (n : New ι F H0 H T) : New ι' F' H0 H' T :=
  ⟨fun a ha => let ⟨h1, h2, h3, h4⟩ := n.at_ a ha; ⟨s.noneF h1 h4 h2, s.nin h2 h4.ne, h3, s.ld h4 h2⟩⟩
/-- a new thing is settled -/
theorem Stp.settle {M : Mem} {T : Addr → Prop} (s : Stp ι F H ι' F' H') (f : FSub F' H') (m : MemRep K ι' F' M H') (n : New ι' F' H H' T) :
    ∃ F2, Stp ι F H ι' F2 H' ∧ FSub F2 H' ∧ MemRep K ι' F2 M H' ∧ (∀ a u, F' a = some u → F2 a = some u) ∧ ∀ a u, T a → H' a = some u → F2 a = some u := by
  classical
  have h1 : ∀ a u, F' a = some u → (if T a then H' a else F' a) = some u := fun a u h => by
    rw [if_neg (fun z => by rw [(n.at_ a z).1] at h; cases h)]; exact h
  refine ⟨fun a => if T a then H' a else F' a, ⟨s.pre, fun a u h => h1 a u (s.subF a u h), fun a h n0 e0 => ?_, s.keep, s.live⟩, fun a u h => ?_, ⟨m.len, m.nd, fun k a mo h2 h3 => ?_⟩, h1, fun a u h e => by show (if T a then H' a else F' a) = some u; rw [if_pos h]; exact e⟩
  · show (if T a then H' a else F' a) = none
    rw [if_neg fun z => h.ne (n.at_ a z).2.2.1]; exact s.newF a h n0 e0
  · have h : (if T a then H' a else F' a) = some u := h
    by_cases z : T a
    · rw [if_pos z] at h; exact .inl h
    · rw [if_neg z] at h; exact f a u h
  · obtain ⟨q, r⟩ := m.at_ k a mo h2 h3
    refine ⟨?_, r.mono (fun _ _ h => h) h1 fun _ h => h⟩
    show (if T a then H' a else F' a) = none
    rw [if_neg (fun z => (n.at_ a z).2.1 (List.mem_of_getElem? h2))]; exact q

/-- a new thing is settled -/
theorem Stp.settle2 {M : Mem} {T : Addr → Prop} (s : Stp ι F H ι' F' H') (f : FSub F' H') (m : MemRep K ι' F' M H') (n : New ι' F' H H' T) :
    ∃ F2, Stp ι F H ι' F2 H' ∧ FSub F2 H' ∧ MemRep K ι' F2 M H' ∧ (∀ a u, F' a = some u → F2 a = some u) ∧ (∀ a u, T a → H' a = some u → F2 a = some u) ∧ ∀ a, ¬ T a → F2 a = F' a := by
  classical
  have h1 : ∀ a u, F' a = some u → (if T a then H' a else F' a) = some u := fun a u h => by
    rw [if_neg (fun z => by rw [(n.at_ a z).1] at h; cases h)]; exact h
  refine ⟨fun a => if T a then H' a else F' a, ⟨s.pre, fun a u h => h1 a u (s.subF a u h), fun a h n0 e0 => ?_, s.keep, s.live⟩, fun a u h => ?_, ⟨m.len, m.nd, fun k a mo h2 h3 => ?_⟩, h1, fun a u h e => by show (if T a then H' a else F' a) = some u; rw [if_pos h]; exact e, fun a h => by show (if T a then H' a else F' a) = F' a; rw [if_neg h]⟩
  · show (if T a then H' a else F' a) = none
    rw [if_neg fun z => h.ne (n.at_ a z).2.2.1]; exact s.newF a h n0 e0
  · have h : (if T a then H' a else F' a) = some u := h
    by_cases z : T a
    · rw [if_pos z] at h; exact .inl h
    · rw [if_neg z] at h; exact f a u h
  · obtain ⟨q, r⟩ := m.at_ k a mo h2 h3
    refine ⟨?_, r.mono (fun _ _ h => h) h1 fun _ h => h⟩
    show (if T a then H' a else F' a) = none
    rw [if_neg (fun z => (n.at_ a z).2.1 (List.mem_of_getElem? h2))]; exact q

/-! ### slots -/
structure SRO (K : PySem.W.Frag) (ι : List Addr) (F : Hp) (O : Addr → Prop) (ρ : Sl) (M : Mem) (σ : L2.St) (H : Hp) : Prop where
  sub : FSub F H
  mem : MemRep K ι F M H
  len : ρ.length = σ.length
  fz : ∀ (i : Nat) d, ρ[i]? = some (.fz d) → ∃ v, σ[i]? = some (some v) ∧ Rep K ι F v d
  own : ∀ a, O a → F a = none ∧ a ∉ ι ∧ Ld H a
  ow : ∃ S : Nat → Addr → Prop, (∀ (i : Nat) m d, ρ[i]? = some (.ow m d) → ∃ v, σ[i]? = some (some v) ∧ DRep K ι F H m v d (S i)) ∧ (∀ i a, S i a → O a) ∧ ∀ i j a, S i a → S j a → i = j
variable {ρ ρ' ρ1 ρ2 : Sl} {M M' : Mem} {σ σ' σ1 σ2 : L2.St} {O : Addr → Prop}
def SR (K : PySem.W.Frag) (ι : List Addr) (F : Hp) (ρ : Sl) (M : Mem) (σ : L2.St) (H : Hp) : Prop := ∃ O, SRO K ι F O ρ M σ H
theorem SRO.step (r : SRO K ι F O ρ M σ H) (s : Stp ι F H ι' F' H') (f : FSub F' H') (m : MemRep K ι' F' M' H') : SRO K ι' F' O ρ M' σ H' := by
  refine ⟨f, m, r.len, fun i d h => ?_, fun a h => ?_, ?_⟩
  · obtain ⟨v, e, q⟩ := r.fz i d h
    exact ⟨v, e, s.rep q⟩
  · obtain ⟨h1, h2, h3⟩ := r.own a h
    exact ⟨s.noneF h1 h3 h2, s.nin h2 h3.ne, s.ld h3 h2⟩
  · obtain ⟨S, h1, h2, h3⟩ := r.ow
    refine ⟨S, fun i m d h => ?_, h2, h3⟩
    obtain ⟨v, e, q⟩ := h1 i m d h
    exact ⟨v, e, s.drep q fun a ha => (r.own a (h2 i a ha)).2.1⟩
theorem SR.step (r : SR K ι F ρ M σ H) (s : Stp ι F H ι' F' H') (f : FSub F' H') (m : MemRep K ι' F' M' H') : SR K ι' F' ρ M' σ H' := let ⟨O, r⟩ := r; ⟨O, r.step s f m⟩
theorem SR.sub (r : SR K ι F ρ M σ H) : FSub F H := let ⟨_, r⟩ := r; r.sub
theorem SR.mem (r : SR K ι F ρ M σ H) : MemRep K ι F M H := let ⟨_, r⟩ := r; r.mem
theorem SR.fz (r : SR K ι F ρ M σ H) : ∀ (i : Nat) d, ρ[i]? = some (.fz d) → ∃ v, σ[i]? = some (some v) ∧ Rep K ι F v d := let ⟨_, r⟩ := r; r.fz
/-- a value that may be an own list or dict of a slot -/
def RepR (K : PySem.W.Frag) (ι : List Addr) (F H : Hp) (v : V) (d : D) : Prop := Rep K ι F v d ∨ ∃ a, v = .ref a ∧ OwRep K ι F H a d ∧ a ∉ ι
theorem Stp.repR (s : Stp ι F H ι' F' H') {v : V} {d : D} (h : RepR K ι F H v d) : RepR K ι' F' H' v d := by
  rcases h with h | ⟨a, e, o, n⟩
  · exact .inl (s.rep h)
  · exact .inr ⟨a, e, s.ow o n, s.nin n o.isSome⟩
/-! ### results -/
/-- what may be wanted of an exception -/
abbrev WXX := Value → Option Addr → L2.St → Hp → Prop
def Res {α : Type} (K : PySem.W.Frag) (cl : Nat → Value) (W : WXX) (ι : List Addr) (F : Hp) (σ : L2.St) (H : Hp) (r : R α) (P : α → Mem → List Addr → Hp → Hp → Prop) : Prop :=
  match r with
  | .ok d M' => ∀ ι' F' H', Stp ι F H ι' F' H' → FSub F' H' → MemRep K ι' F' M' H' → P d M' ι' F' H'
  | .ex c M' => ∀ ι' F' H', Stp ι F H ι' F' H' → FSub F' H' → MemRep K ι' F' M' H' → W (cl c) none σ H'
  | .st => False
variable {cl : Nat → Value} {W : WXX}
theorem Res.bind {α β : Type} {r : R α} {f : α → Mem → R β} {P : β → Mem → List Addr → Hp → Hp → Prop} (h : Res K cl W ι F σ H (r.bind f) P) :
    Res K cl W ι F σ H r fun d M1 ι1 F1 H1 => Res K cl W ι1 F1 σ H1 (f d M1) P := by
  cases r with
  | ok d M1 =>
    intro ι1 F1 H1 s1 f1 m1
    have h' : Res K cl W ι F σ H (f d M1) P := h
    cases e : f d M1 with
    | ok x M2 => rw [e] at h'; intro ι2 F2 H2 s2 f2 m2; exact h' ι2 F2 H2 (s1.trans s2) f2 m2
    | ex c M2 => rw [e] at h'; intro ι2 F2 H2 s2 f2 m2; exact h' ι2 F2 H2 (s1.trans s2) f2 m2
    | st => rw [e] at h'; exact h'
  | ex c M1 => exact h
  | st => exact h
theorem Res.imp {α : Type} {r : R α} {P P' : α → Mem → List Addr → Hp → Hp → Prop} (h : Res K cl W ι F σ H r P)
    (q : ∀ d M' ι' F' H', Stp ι F H ι' F' H' → FSub F' H' → MemRep K ι' F' M' H' → P d M' ι' F' H' → P' d M' ι' F' H') : Res K cl W ι F σ H r P' := by
  cases r with
  | ok d M1 => intro ι1 F1 H1 s1 f1 m1; exact q _ _ _ _ _ s1 f1 m1 (h ι1 F1 H1 s1 f1 m1)
  | ex c M1 => exact h
  | st => exact h
theorem Res.of_ok {α : Type} {d : α} {M' : Mem} {P : α → Mem → List Addr → Hp → Hp → Prop} (h : Res K cl W ι F σ H (.ok d M') P) (f : FSub F H) (m : MemRep K ι F M' H) : P d M' ι F H := h ι F H Stp.refl f m
/-- an expression's reading from its evaluator -/
def tE (K : PySem.W.Frag) (cl : Nat → Value) (W : WXX) (r : Sl → Mem → R D) : TE := fun σ H Q => ∃ ι F ρ M, SR K ι F ρ M σ H ∧ Res K cl W ι F σ H (r ρ M) fun d _ ι' F' H' => ∀ v, Rep K ι' F' v d → Q v H'
def tRd (K : PySem.W.Frag) (cl : Nat → Value) (W : WXX) (r : Sl → Mem → R D) : TE := fun σ H Q => ∃ ι F ρ M, SR K ι F ρ M σ H ∧ Res K cl W ι F σ H (r ρ M) fun d _ ι' F' H' => ∀ v, RepR K ι' F' H' v d → Q v H'
def tA (K : PySem.W.Frag) (cl : Nat → Value) (W : WXX) (r : Sl → Mem → R (List D)) : TA := fun σ H Q => ∃ ι F ρ M, SR K ι F ρ M σ H ∧ Res K cl W ι F σ H (r ρ M) fun ds _ ι' F' H' => ∀ vs, Reps K ι' F' vs ds → Q vs H'
def tT (K : PySem.W.Frag) (cl : Nat → Value) (W : WXX) (r : Sl → Mem → R Bool) : TT := fun σ H Q => ∃ ι F ρ M, SR K ι F ρ M σ H ∧ Res K cl W ι F σ H (r ρ M) fun b _ _ _ H' => Q b H'
/-- a thing of one's own -/
def tO (K : PySem.W.Frag) (cl : Nat → Value) (W : WXX) (r : Sl → Mem → R (Md × D)) : TE := fun σ H Q => ∃ ι F ρ M, SR K ι F ρ M σ H ∧ Res K cl W ι F σ H (r ρ M) fun d _ ι' F' H' => ∀ v T, DRep K ι' F' H' d.1 v d.2 T → New ι' F' H H' T → Q v H'
inductive RepsR (K : PySem.W.Frag) (ι : List Addr) (F H : Hp) : List V → List D → Prop
  | nil : RepsR K ι F H [] []
  | cons {v : V} {d : D} {vs : List V} {ds : List D} : RepR K ι F H v d → RepsR K ι F H vs ds → RepsR K ι F H (v :: vs) (d :: ds)
def tAR (K : PySem.W.Frag) (cl : Nat → Value) (W : WXX) (r : Sl → Mem → R (List D)) : TA := fun σ H Q => ∃ ι F ρ M, SR K ι F ρ M σ H ∧ Res K cl W ι F σ H (r ρ M) fun ds _ ι' F' H' => ∀ vs, RepsR K ι' F' H' vs ds → Q vs H'
theorem Stp.repsR (s : Stp ι F H ι' F' H') : ∀ {v : List V} {d : List D}, RepsR K ι F H v d → RepsR K ι' F' H' v d
  | _, _, .nil => .nil
  | _, _, .cons h r => .cons (s.repR h) (s.repsR r)
end
theorem PE.weak {X : Cx} {e : Expr} {t t' : TE} (h : PE X e t) (q : ∀ σ H Q, t' σ H Q → t σ H Q) : PE X e t' := ⟨fun pins s σ H Q I z => h.run pins s σ H Q I (q σ H Q z)⟩
theorem PT.weak {X : Cx} {e : Expr} {t t' : TT} (h : PT X e t) (q : ∀ σ H Q, t' σ H Q → t σ H Q) : PT X e t' := ⟨fun pins s σ H Q I z => h.run pins s σ H Q I (q σ H Q z)⟩
theorem PA.weak {X : Cx} {e : List Expr} {t t' : TA} (h : PA X e t) (q : ∀ σ H Q, t' σ H Q → t σ H Q) : PA X e t' := ⟨fun po pins s σ H Q I z => h.run po pins s σ H Q I (q σ H Q z)⟩
theorem PS.weak {X : Cx} {e : Stmt} {t t' : TS} (h : PS X e t) (q : ∀ D σ H, t' D σ H → t D σ H) : PS X e t' := ⟨fun pins s σ H D I z => h.run pins s σ H D I (q D σ H z)⟩
theorem PSs.weak {X : Cx} {e : List Stmt} {t t' : TS} (h : PSs X e t) (q : ∀ D σ H, t' D σ H → t D σ H) : PSs X e t' := ⟨fun pins s σ H D I z => h.run pins s σ H D I (q D σ H z)⟩
end VL
/-! VDK: dicts whose keys are ints and texts -/
namespace VL
open PySem PySem.Spec PyProof.Rows L2
section
variable {K : PySem.W.Frag} {ι : List Addr} {F F' H : Hp}
theorem keyD_inj {a b : Key} (h : keyD a = keyD b) : a = b := by
  cases a <;> cases b <;> cases h <;> rfl
theorem flat_key {v : V} {d : D} (h : Rep K ι F v d) (e : flatK d = true) : ∃ k : Key, d = keyD k ∧ v = kV k := by
  cases d <;> first | (cases e; done) | skip
  · cases h; exact ⟨.inl _, rfl, rfl⟩
  · cases h; exact ⟨.inr _, rfl, rfl⟩
theorem flat_keyD (k : Key) : flatK (keyD k) = true := by cases k <;> rfl
/-- a dict by its keys -/
theorem DicAt.k {a : Addr} {G : Hp} {l : List (D × V)} (h : DicAt G a false l) : ∃ kvs : List (Key × V), G a = some (.dK kvs) ∧ l = kvs.map fun p => (keyD p.1, p.2) := h
theorem DicAt.t {a : Addr} {G : Hp} {l : List (D × V)} (h : DicAt G a true l) : ∃ kvs : List (List Key × V), G a = some (.dT kvs) ∧ l = kvs.map fun p => (tkeyD p.1, p.2) := h
theorem keyDs_inj : ∀ {a b : List Key}, a.map keyD = b.map keyD → a = b
  | [], [], _ => rfl
  | [], _ :: _, h => by simp at h
  | _ :: _, [], h => by simp at h
  | x :: a, y :: b, h => by
    simp only [List.map_cons, List.cons.injEq] at h
    rw [keyD_inj h.1, keyDs_inj h.2]
theorem tkeyD_inj {a b : List Key} (h : tkeyD a = tkeyD b) : a = b := by
  injection h with h
  exact keyDs_inj h
section
variable {κ : Type} [DecidableEq κ] {kd : κ → D}
theorem repK_look (inj : ∀ {a b : κ}, kd a = kd b → a = b) {k : κ} : ∀ {kvs : List (κ × V)} {kds : List (D × D)}, RepK K ι F (kvs.map fun p => (kd p.1, p.2)) kds → (lookD (kd k) kds = none ∧ valV kvs k = none) ∨ ∃ d v, lookD (kd k) kds = some d ∧ valV kvs k = some v ∧ Rep K ι F v d
  | [], _, h => by cases h; exact .inl ⟨rfl, rfl⟩
  | p :: kvs, _, h => by
    cases h with
    | cons h1 h2 =>
      by_cases e : p.1 = k
      · refine .inr ⟨_, p.2, ?_, valV_pos e, h1⟩
        unfold lookD
        rw [List.find?_cons_of_pos (by simp [e])]; rfl
      · have e2 : ¬ kd p.1 = kd k := fun z => e (inj z)
        rw [valV_neg e]
        have : ∀ d' m, lookD (kd k) ((kd p.1, d') :: m) = lookD (kd k) m := fun d' m => by
          unfold lookD
          rw [List.find?_cons_of_neg (by simp [e2])]
        rw [this]
        exact repK_look inj h2
theorem repK_any (inj : ∀ {a b : κ}, kd a = kd b → a = b) {k : κ} : ∀ {kvs : List (κ × V)} {kds : List (D × D)}, RepK K ι F (kvs.map fun p => (kd p.1, p.2)) kds → (kds.any fun kv => decide (kv.1 = kd k)) = kvs.any fun kv => decide (kv.1 = k)
  | [], _, h => by cases h; rfl
  | p :: kvs, _, h => by
    cases h with
    | cons h1 h2 =>
      rw [List.any_cons, List.any_cons, repK_any inj h2]
      congr 1
      by_cases e : p.1 = k
      · simp [e]
      · have e2 : ¬ kd p.1 = kd k := fun z => e (inj z)
        simp [e, e2]
theorem repK_repl (inj : ∀ {a b : κ}, kd a = kd b → a = b) {k : κ} {v : V} {d : D} (hv : Rep K ι F v d) : ∀ {kvs : List (κ × V)} {kds : List (D × D)}, RepK K ι F (kvs.map fun p => (kd p.1, p.2)) kds →
    RepK K ι F ((kvs.map fun kv => if kv.1 = k then (kv.1, v) else kv).map fun p => (kd p.1, p.2)) (kds.map fun kv => if kv.1 = kd k then (kv.1, d) else kv)
  | [], _, h => by cases h; exact .nil
  | p :: kvs, _, h => by
    cases h with
    | cons h1 h2 =>
      simp only [List.map_cons]
      by_cases e : p.1 = k
      · rw [if_pos e, if_pos (by rw [e])]
        exact .cons hv (repK_repl inj hv h2)
      · rw [if_neg e, if_neg fun z => e (inj z)]
        exact .cons h1 (repK_repl inj hv h2)
theorem repK_snoc {x : D} {v : V} {d : D} (hv : Rep K ι F v d) : ∀ {l : List (D × V)} {kds : List (D × D)}, RepK K ι F l kds → RepK K ι F (l ++ [(x, v)]) (kds ++ [(x, d)])
  | [], _, h => by cases h; exact .cons hv .nil
  | p :: l, _, h => by
    cases h with
    | cons h1 h2 => exact .cons h1 (repK_snoc hv h2)
theorem repK_put (inj : ∀ {a b : κ}, kd a = kd b → a = b) {k : κ} {v : V} {d : D} {kvs : List (κ × V)} {kds : List (D × D)} (hv : Rep K ι F v d) (h : RepK K ι F (kvs.map fun p => (kd p.1, p.2)) kds) : RepK K ι F ((putK kvs k v).map fun p => (kd p.1, p.2)) (putD (kd k) d kds) := by
  unfold putK putD
  rw [repK_any inj h]
  split
  · exact repK_repl inj hv h
  · rw [List.map_append]; exact repK_snoc hv h
theorem repK_len : ∀ {l : List (D × V)} {kds : List (D × D)}, RepK K ι F l kds → l.length = kds.length
  | [], _, h => by cases h; rfl
  | p :: l, _, h => by
    cases h with
    | cons h1 h2 => simp [repK_len h2]
end
theorem repK_keys : ∀ {kvs : List (Key × V)} {kds : List (D × D)}, RepK K ι F (kvs.map fun p => (keyD p.1, p.2)) kds → Reps K ι F (kvs.map fun kv => kV kv.1) (kds.map (·.1))
  | [], _, h => by cases h; exact .nil
  | p :: kvs, _, h => by
    cases h with
    | cons h1 h2 =>
      refine .cons ?_ (repK_keys h2)
      obtain ⟨k, v⟩ := p
      cases k with
      | inl i => exact .int i
      | inr s => exact .str s
theorem repK_ints : ∀ {kvs : List (Key × V)} {kds : List (D × D)} {ns : List Int}, RepK K ι F (kvs.map fun p => (keyD p.1, p.2)) kds → intsOf (kds.map (·.1)) = some ns → kvs.map (·.1) = ns.map Sum.inl
  | [], _, _, h, e => by cases h; cases e; rfl
  | p :: kvs, _, ns, h, e => by
    cases h with
    | cons h1 h2 =>
      obtain ⟨k, v⟩ := p
      cases k with
      | inl i =>
        simp only [List.map_cons, keyD, intsOf, Option.map_eq_some_iff] at e
        obtain ⟨ms, e, rfl⟩ := e
        rw [List.map_cons, List.map_cons, repK_ints h2 e]
      | inr s => simp only [List.map_cons, keyD, intsOf] at e; cases e
theorem FSub.rdK {a : Addr} {kvs : List (Key × V)} (f : FSub F H) (h : F a = some (.dK kvs)) : Rd H a (.dK kvs) := by
  rcases f _ _ h with r | ⟨_, o, r⟩
  · exact .inl r
  · exact .inr ⟨o, r⟩
end
theorem intsOf_flat : ∀ {ds : List D} {ns : List Int}, intsOf ds = some ns → ds.all flatK = true
  | [], _, _ => rfl
  | d :: ds, ns, h => by
    unfold intsOf at h
    split at h
    · rename_i e; cases e
    · rename_i i r e
      cases e
      simp only [Option.map_eq_some_iff] at h
      obtain ⟨ms, h, _⟩ := h
      simp only [List.all_cons, intsOf_flat h, flatK, Bool.and_self]
    · cases h
section
variable {K : PySem.W.Frag} {ι : List Addr} {F F' H : Hp} {v : V} {kds : List (D × D)}
theorem RepR.dic (f : FSub F H) (h : RepR K ι F H v (.dic false kds)) : ∃ a kvs, v = .ref a ∧ Rd H a (.dK kvs) ∧ RepK K ι F (kvs.map fun p => (keyD p.1, p.2)) kds := by
  rcases h with h | ⟨a, e, ⟨l, at_, r⟩, _⟩
  · cases h with
    | dic at_ r =>
      obtain ⟨kvs, e, rfl⟩ := at_.k
      exact ⟨_, kvs, rfl, f.rdK e, r⟩
  · obtain ⟨kvs, e2, rfl⟩ := at_.k
    exact ⟨a, kvs, e, .inl e2, r⟩
/-- a tuple that stands there may be settled -/
theorem tup_in {M : Mem} {q : Addr} {ts : List V} (f : FSub F H) (m : MemRep K ι F M H) (h : H q = some (.tup ts)) :
    ∃ F', Stp ι F H ι F' H ∧ FSub F' H ∧ MemRep K ι F' M H ∧ F' q = some (.tup ts) := by
  cases e : F q with
  | some u =>
    have : u = .tup ts := by
      rcases f q u e with z | ⟨_, o, z⟩
      · rw [h] at z; cases z; rfl
      · rw [h] at z; cases z
    subst this
    exact ⟨F, Stp.refl, f, m, e⟩
  | none =>
    have sub : ∀ a u, F a = some u → upd F q (.tup ts) a = some u := fun a u z => by rw [upd_ne (ne_of_none z e)]; exact z
    refine ⟨upd F q (.tup ts), ⟨⟨[], by simp, by simp⟩, sub, fun a l _ z => ?_, fun _ _ z _ => z, fun _ z => z⟩, fun a u z => ?_, ⟨m.len, m.nd, fun n a mo h1 h2 => ?_⟩, upd_same⟩
    · rw [upd_ne fun z2 => ?_]
      · exact z
      · subst z2
        obtain ⟨w, ew, lw⟩ := l.ex
        rw [h] at ew; cases ew; cases lw
    · by_cases ea : a = q
      · subst ea; rw [upd_same] at z; cases z; exact .inl h
      · rw [upd_ne ea] at z; exact f a u z
    · obtain ⟨q1, q2⟩ := m.at_ n a mo h1 h2
      have ne : a ≠ q := fun z => by
        subst z
        exact q2.notup h
      exact ⟨by rw [upd_ne ne]; exact q1, q2.mono (fun _ _ h => h) sub fun _ h => h⟩
theorem tups_in {M : Mem} : ∀ {kvs : List (List Key × V)} {bs : List Addr} {F : Hp}, FSub F H → MemRep K ι F M H → IsKeys H kvs bs →
    ∃ F', Stp ι F H ι F' H ∧ FSub F' H ∧ MemRep K ι F' M H ∧ IsKeys F' kvs bs
  | _, _, F, f, m, .nil => ⟨F, Stp.refl, f, m, .nil⟩
  | _, _, F, f, m, .cons h r => by
    obtain ⟨F1, s1, f1, m1, e1⟩ := tup_in f m h
    obtain ⟨F2, s2, f2, m2, e2⟩ := tups_in f1 m1 r
    exact ⟨F2, s1.trans s2, f2, m2, .cons (s2.subF _ _ e1) e2⟩
theorem keyV_rep (k : Key) : Rep K ι F (kV k) (keyD k) := by
  cases k with
  | inl i => exact .int i
  | inr s => exact .str s
theorem keyVs_rep : ∀ k : List Key, Reps K ι F (k.map kV) (k.map keyD)
  | [] => .nil
  | k :: ks => .cons (keyV_rep k) (keyVs_rep ks)
theorem keys_reps : ∀ {kvs : List (List Key × V)} {bs : List Addr} {kds : List (D × D)}, RepK K ι F (kvs.map fun p => (tkeyD p.1, p.2)) kds → IsKeys F' kvs bs → Reps K ι F' (bs.map V.ref) (kds.map (·.1))
  | _, _, _, h, .nil => by cases h; exact .nil
  | _, _, _, h, .cons e r => by
    cases h with
    | cons h1 h2 => exact .cons (.tup e (keyVs_rep _)) (keys_reps h2 r)
theorem FSub.rdT {a : Addr} {kvs : List (List Key × V)} (f : FSub F H) (h : F a = some (.dT kvs)) : Rd H a (.dT kvs) := by
  rcases f _ _ h with r | ⟨_, o, r⟩
  · exact .inl r
  · exact .inr ⟨o, r⟩
theorem RepR.dicT {v : V} {kds : List (D × D)} (f : FSub F H) (h : RepR K ι F H v (.dic true kds)) : ∃ a kvs, v = .ref a ∧ Rd H a (.dT kvs) ∧ RepK K ι F (kvs.map fun p => (tkeyD p.1, p.2)) kds := by
  rcases h with h | ⟨a, e, ⟨l, at_, r⟩, _⟩
  · cases h with
    | dic at_ r =>
      obtain ⟨kvs, e, rfl⟩ := at_.t
      exact ⟨_, kvs, rfl, f.rdT e, r⟩
  · obtain ⟨kvs, e2, rfl⟩ := at_.t
    exact ⟨a, kvs, e, .inl e2, r⟩
theorem RepR.dicA {v : V} {t : Bool} {kds : List (D × D)} (f : FSub F H) (h : RepR K ι F H v (.dic t kds)) : (∃ a kvs, v = .ref a ∧ Rd H a (.dK kvs) ∧ RepK K ι F (kvs.map fun p => (keyD p.1, p.2)) kds) ∨
    ∃ a kvs, v = .ref a ∧ Rd H a (.dT kvs) ∧ RepK K ι F (kvs.map fun p => (tkeyD p.1, p.2)) kds := by
  cases t with
  | false => exact .inl (h.dic f)
  | true => exact .inr (h.dicT f)
/-- a tuple that is a key -/
theorem tup_key : ∀ {ds : List D} {vs : List V}, Reps K ι F vs ds → ds.all flatK = true → ∃ ks : List Key, ds = ks.map keyD ∧ vs = ks.map kV
  | [], _, h, _ => by cases h; exact ⟨[], rfl, rfl⟩
  | d :: ds, _, h, e => by
    cases h with
    | cons h r =>
      simp only [List.all_cons, Bool.and_eq_true] at e
      obtain ⟨k, rfl, rfl⟩ := flat_key h e.1
      obtain ⟨ks, rfl, rfl⟩ := tup_key r e.2
      exact ⟨k :: ks, rfl, rfl⟩
end
/-- list(xs) of a list, a tuple, a dict -/
theorem call_list_any {X : Cx} (hc : X.calm = true) : CallR X (.type "list") (fun xs H Q => (∃ p ys, xs = [.ref p] ∧ (SqL X.K H p ys ∨ SqT X.K H p ys) ∧ ∀ l, H l = none → Q (.ref l) (upd H l (.lst ys))) ∨
    (∃ (a : Addr) (kvs : List (Key × V)), xs = [.ref a] ∧ Rd H a (.dK kvs) ∧ ∀ p, H p = none → Q (.ref p) (upd H p (.lst (kvs.map fun kv => kV kv.1)))) ∨
    ∃ d kvs, xs = [V.ref d] ∧ Rd H d (.dT kvs) ∧ ∀ p bs, H p = none → IsKeys H kvs bs → Q (.ref p) (upd H p (.lst (bs.map V.ref)))) := by
  intro pins sh σ hp args us Q I rel h
  rcases h with h | h | h
  · exact call_list_of pins sh σ hp args us Q I rel h
  · exact call_listD hc pins sh σ hp args us Q I rel h
  · exact call_list_dT hc pins sh σ hp args us Q I rel h
/-- len(d) -/
theorem cr_lenD {X : Cx} : CallR X (.builtin "len") (fun xs H Q => ∃ (a : Addr) (kvs : List (Key × V)), xs = [.ref a] ∧ Rd H a (.dK kvs) ∧ Q (.int kvs.length) H) := by
  intro pins sh σ hp args us Q I rel ⟨a, kvs, ea, rd, fin⟩
  subst ea
  obtain ⟨w0, rfl, rw0⟩ := vals1 rel
  cases rw0
  exact d_len I rd fun t s' I' => ⟨.int kvs.length, _, I', ⟨t, rfl⟩, fin⟩
/-- sorted(d) of a dict whose keys are ints, any number of them -/
theorem cr_sortedDK {X : Cx} (hcalm : X.calm = true) : CallR X (.builtin "sorted") (fun xs H Q => ∃ (a : Addr) (kvs : List (Key × V)) (ks : List Int), xs = [.ref a] ∧ Rd H a (.dK kvs) ∧ kvs.map (·.1) = ks.map Sum.inl ∧
    ∀ (ys : List Int) (p : Addr), ys.Perm ks → ys.Pairwise (· ≤ ·) → H p = none → Q (.ref p) (upd H p (.lst (ys.map V.int)))) := by
  intro pins sh σ hp args us Q I rel ⟨a, kvs, ks, ea, rd, hks, fin⟩
  subst ea
  obtain ⟨w0, rfl, rw0⟩ := vals1 rel
  cases rw0
  obtain ⟨small, low, vs, kvr, dd⟩ := dk_rd I.hok rd
  obtain ⟨ep, dat⟩ := dd.dictAt
  have keys : vs.map (·.1) = ks.map Sum.inl := kvr.keys ▸ hks
  have len : vs.length = ks.length := by simpa using congrArg List.length keys
  have small' : vs.length ≤ sizeLine := kvr.length ▸ small
  refine Calls.call_function_entry PyProof.Rows.kind_sorted PyProof.Rows.plain_sorted PyProof.Rows.entry_sorted (PyProof.Rows.args_sorted1 _) ?_
  unfold Builtin.«sorted»
  refine wpAny_bind (m := checkCount "sorted" 1 1 _) (wpAny_pure (wpAny_bind (PySem.W.kdu_collect (PySem.W.kdl_dict (knd := mixKind X.prog X.w) low) (I.ok.hd hcalm) dat small' fun h1 tk acc keep1 got => ?_)))
  have alen : acc.toList.length = ks.length := by rw [Array.length_toList, got.1, len]
  have hI : IntsAre acc.toList ks := ints_each alen fun j v e => by
    obtain ⟨k, x, e1, e2⟩ := got.2 j v (by rw [← e, Array.getElem?_toList])
    have e3 := congrArg (fun l => l[j]?) keys
    simp only [List.getElem?_map, e1, Option.map_some] at e3
    obtain ⟨y, e4, e5⟩ := Option.map_eq_some_iff.mp e3.symm
    rcases keyIs_shape e2 with ⟨i, t, ek, ev⟩ | ⟨z, t, ek, _⟩
    · exact ⟨y, t, e4, by rw [ev]; rw [ek] at e5; cases e5; rfl⟩
    · rw [ek] at e5; cases e5
  have lim : acc.toList.length ≤ sizeLine := by rw [alen, ← len]; exact small'
  refine wpAny_bind (wpAny_newList ?_ lim)
  have at_ : (h1.push (seqObj "list" acc.toList.toArray 0)).get? h1.objs.size = some (seqObj "list" acc.toList.toArray 0) := Heap.get?_push_size _ rfl
  show wpAny _ _ _ _ _ { sh with heap := h1.push (seqObj "list" acc.toList.toArray 0), toks := tk }
  refine wpAny_bind (wpAny_holding (wpAny_call_entry PyProof.Rows.slot_list_sort ⟨_, at_, rfl⟩ PyProof.Rows.entry_list_sort
    (SrtO.list_sort_ord (s := { sh with heap := h1.push (seqObj "list" acc.toList.toArray 0), toks := tk }) SrtO.swo_int at_ lim (fun two => SrtO.ints_sortable hI two) fun out so st => ⟨_, rfl, ?_⟩) (PyProof.Rows.args_list_sort _)))
  obtain ⟨g1, g2, g3⟩ := SrtO.ints_out hI so st
  obtain ⟨e', he'⟩ := PyProof.Rows.sortedHeap_at (vs := acc.toList) (out := out.toArray) at_
  have olen : ((out.map SrtO.iv).map V.int).length ≤ sizeLine := by rw [List.length_map, g2.length_eq, ← len]; exact small'
  refine wpAny_pure ⟨_, rfl, .ref h1.objs.size, _, (I.kept (t' := tk) keep1).laid (o := .lst ((out.map SrtO.iv).map V.int)) (t' := tk) (fun b u e => ?_) (Nat.le_refl _) ⟨olen, out, e', vals_of_ints g1, he'⟩, rfl, fin _ _ g2 g3 ((I.kept (t' := tk) keep1).hok.fresh (Nat.le_refl _))⟩
  have hb : b < h1.objs.size := Heap.lt_size e
  rw [PyProof.Rows.sortedHeap_old (Nat.ne_of_lt hb) (by rw [size_push']; exact Nat.lt_succ_of_lt hb), Heap.get?_push_of_some _ e]
end VL
/-! V2: the operations by values -/
namespace VL
open PySem PySem.Spec PyProof.Rows L2
section
variable {K : PySem.W.Frag} {ι ι' : List Addr} {F F' H H' : Hp} {v w : V} {ds : List D} {M : Mem}
theorem Rep.getInt {i : Int} (h : Rep K ι F v (.int i)) : v = .int i := by cases h; rfl
theorem RepR.int {i : Int} (h : RepR K ι F H v (.int i)) : v = .int i := by
  rcases h with h | ⟨a, _, o, _⟩
  · cases h; rfl
  · exact o.elim
theorem RepR.bl {i : Bool} (h : RepR K ι F H v (.bl i)) : v = .bl i := by
  rcases h with h | ⟨a, _, o, _⟩
  · cases h; rfl
  · exact o.elim
theorem RepR.str {i : Str} (h : RepR K ι F H v (.str i)) : v = .str i := by
  rcases h with h | ⟨a, _, o, _⟩
  · cases h; rfl
  · exact o.elim
theorem RepR.non (h : RepR K ι F H v .non) : v = .non := by
  rcases h with h | ⟨a, _, o, _⟩
  · cases h; rfl
  · exact o.elim
theorem RepR.lst (f : FSub F H) (h : RepR K ι F H v (.lst ds)) : ∃ a vs, v = .ref a ∧ SqL K H a vs ∧ Reps K ι F vs ds := by
  rcases h with h | ⟨a, e, ⟨vs, z, r⟩, _⟩
  · cases h with | lst a r => exact ⟨_, _, rfl, f.sqL a, r⟩
  · exact ⟨a, vs, e, .inl (.inl z), r⟩
theorem FSub.tup {a : Addr} {vs : List V} (f : FSub F H) (h : F a = some (.tup vs)) : H a = some (.tup vs) := by
  rcases f _ _ h with r | ⟨r, _⟩
  · exact r
  · cases r
theorem RepR.ktup (f : FSub F H) (h : RepR K ι F H v (.ktup ds)) : ∃ a vs, v = .ref a ∧ SqT K H a vs ∧ Reps K ι F vs ds := by
  rcases h with h | ⟨a, _, o, _⟩
  · cases h with | ktup a r => exact ⟨_, _, rfl, f.sqT a, r⟩
  · exact o.elim
theorem RepR.tup (f : FSub F H) (h : RepR K ι F H v (.tup ds)) : ∃ a vs, v = .ref a ∧ SqT K H a vs ∧ F a = some (.tup vs) ∧ Reps K ι F vs ds := by
  rcases h with h | ⟨a, _, o, _⟩
  · cases h with | tup a r => exact ⟨_, _, rfl, .inl (.inl (f.tup a)), a, r⟩
  · exact o.elim
theorem RepR.of (h : Rep K ι F v w') : RepR K ι F H v w' := .inl h
mutual
theorem Rep.dp (f : FSub F H) : ∀ {v : V} {d : D} {x : PyData}, Rep K ι F v d → D.py d = some x → Dp K H v x
  | _, _, _, .non, h => by simp only [D.py, Option.some.injEq] at h; subst h; exact .non
  | _, _, _, .bl b, h => by simp only [D.py, Option.some.injEq] at h; subst h; exact .bl b
  | _, _, _, .int b, h => by simp only [D.py, Option.some.injEq] at h; subst h; exact .int b
  | _, _, _, .str b, h => by simp only [D.py, Option.some.injEq] at h; subst h; exact .str b
  | _, _, _, .tup a r, h => by
    simp only [D.py, Option.map_eq_some_iff] at h
    obtain ⟨xs, h, rfl⟩ := h
    exact .tup (.inl (.inl (f.tup a))) (Reps.dp f r h)
  | _, _, _, .lst a r, h => by
    simp only [D.py, Option.map_eq_some_iff] at h
    obtain ⟨xs, h, rfl⟩ := h
    exact .lst (f.sqL a) (Reps.dp f r h)
  | _, _, _, .dic _ _, h => by simp [D.py] at h
  | _, _, _, .ktup _ _, h => by simp [D.py] at h
  | _, _, _, .ref _, h => by simp [D.py] at h
theorem Reps.dp (f : FSub F H) : ∀ {v : List V} {d : List D} {x : List PyData}, Reps K ι F v d → D.pys d = some x → DpAll K H v x
  | _, _, _, .nil, h => by simp only [D.pys, Option.some.injEq] at h; subst h; exact .nil
  | _, _, _, .cons a r, h => by
    simp only [D.pys] at h
    split at h
    · rename_i x y e1 e2
      simp only [Option.some.injEq] at h; subst h
      exact .cons (Rep.dp f a e1) (Reps.dp f r e2)
    · cases h
end
theorem RepR.dp (f : FSub F H) {v : V} {d : D} {x : PyData} (h : RepR K ι F H v d) (e : D.py d = some x) : Dp K H v x := by
  rcases h with h | ⟨a, rfl, o, _⟩
  · exact h.dp f e
  · cases d with
    | lst ds =>
      obtain ⟨vs, z, r⟩ := o
      simp only [D.py, Option.map_eq_some_iff] at e
      obtain ⟨xs, e, rfl⟩ := e
      exact .lst (.inl (.inl z)) (r.dp f e)
    | dic kds => simp [D.py] at e
    | _ => exact o.elim

/-! ### readings of an operation -/
def rOp (K : PySem.W.Frag) (g : D → D → Option D) : R2 := fun x y H Q => ∃ ι F M a b d, FSub F H ∧ MemRep K ι F M H ∧ RepR K ι F H x a ∧ RepR K ι F H y b ∧ g a b = some d ∧
  ∀ F' H' v, Stp ι F H ι F' H' → FSub F' H' → MemRep K ι F' M H' → Rep K ι F' v d → Q v H'
def rCl (K : PySem.W.Frag) (g : List D → Option D) : List V → Hp → VK → Prop := fun xs H Q => ∃ ι F M as d, FSub F H ∧ MemRep K ι F M H ∧ RepsR K ι F H xs as ∧ g as = some d ∧
  ∀ F' H' v, Stp ι F H ι F' H' → FSub F' H' → MemRep K ι F' M H' → Rep K ι F' v d → Q v H'
def rU1 (K : PySem.W.Frag) (g : D → Option D) : V → Hp → VK → Prop := fun x H Q => ∃ ι F M a d, FSub F H ∧ MemRep K ι F M H ∧ RepR K ι F H x a ∧ g a = some d ∧
  ∀ F' H' v, Stp ι F H ι F' H' → FSub F' H' → MemRep K ι F' M H' → Rep K ι F' v d → Q v H'
/-- a new list, a new tuple -/
theorem fin_new {Q : VK} {o : HO} {d : D} (f : FSub F H) (m : MemRep K ι F M H) (q : ∀ F' H' v, Stp ι F H ι F' H' → FSub F' H' → MemRep K ι F' M H' → Rep K ι F' v d → Q v H')
    {p : Addr} (hp : H p = none) (hr : Rep K ι (upd F p o) (.ref p) d) : Q (.ref p) (upd H p o) := by
  obtain ⟨s1, f1, m1⟩ := new_ok (o := o) f m hp
  exact q _ _ _ s1 f1 m1 hr
theorem fin_new2 {Q : VK} {o : HO} {d : D} {F2 : Hp} (s : Stp ι F H ι F2 H) (f : FSub F2 H) (m : MemRep K ι F2 M H) (q : ∀ F' H' v, Stp ι F H ι F' H' → FSub F' H' → MemRep K ι F' M H' → Rep K ι F' v d → Q v H')
    {p : Addr} (hp : H p = none) (hr : Rep K ι (upd F2 p o) (.ref p) d) : Q (.ref p) (upd H p o) := by
  obtain ⟨s1, f1, m1⟩ := new_ok (o := o) f m hp
  exact q _ _ _ (s.trans s1) f1 m1 hr
theorem rep_new_lst {vs : List V} {p : Addr} (f : FSub F H) (hp : H p = none) (r : Reps K ι F vs ds) : Rep K ι (upd F p (.lst vs)) (.ref p) (.lst ds) :=
  .lst (.inl (.inl upd_same)) (r.mono (fun _ _ h => h) fun a u h => by rw [upd_ne (fun e => f.isSome h (by rw [e]; exact hp))]; exact h)
theorem rep_new_tup {vs : List V} {p : Addr} (f : FSub F H) (hp : H p = none) (r : Reps K ι F vs ds) : Rep K ι (upd F p (.tup vs)) (.ref p) (.tup ds) :=
  .tup upd_same (r.mono (fun _ _ h => h) fun a u h => by rw [upd_ne (fun e => f.isSome h (by rw [e]; exact hp))]; exact h)
theorem fin_same {Q : VK} {d : D} (f : FSub F H) (m : MemRep K ι F M H) (q : ∀ F' H' v, Stp ι F H ι F' H' → FSub F' H' → MemRep K ι F' M H' → Rep K ι F' v d → Q v H') (hr : Rep K ι F v d) : Q v H := q _ _ _ Stp.refl f m hr
section
variable {X : Cx}
theorem add_isList {prog : Program} {w : World} {A : Around} {E : Value → Shared → Prop} {s : Shared} {l b : Addr} {vs ws : List Value} {Q : Value → Shared → Prop} (hl : s.heap.IsList l vs.toArray) (hb : s.heap.IsList b ws.toArray)
    (h : Q (.ref s.heap.objs.size) { s with heap := s.heap.push { cls := .type "list", data := .seq (vs ++ ws).toArray } }) (hsz : vs.length + ws.length ≤ sizeLine) :
    wpAny (model prog w) A (binaryOp .Add (.ref l) (.ref b)) Q E s := by
  obtain ⟨⟨cls, dd, data, sl⟩, ho, hc, n, hd⟩ := id hl
  obtain ⟨⟨cls2, dd2, data2, sl2⟩, ho2, hc2, n2, hd2⟩ := id hb
  simp only at hc hd hc2 hd2
  subst hc hd hc2 hd2
  have e : vs.toArray ++ ws.toArray = (vs ++ ws).toArray := by simp
  refine concat_meets ⟨_, ho, rfl⟩ ⟨_, ho2, rfl⟩ noFill_list_add seq_list_add PySem.F.slot_list_add PySem.F.entry_list_add (PySem.F.args_list_add_2 _ _) (list_addW l b vs.toArray ws.toArray n n2 dd dd2 sl sl2 (by simpa using hsz)) ⟨ho, ho2, ?_⟩
  rw [e]
  exact h
theorem op_addL : OpR X (binaryOp .Add) (fun x y H Q => ∃ l b xs zs, x = .ref l ∧ y = .ref b ∧ SqL X.K H l xs ∧ SqL X.K H b zs ∧ xs.length + zs.length ≤ sizeLine ∧ ∀ p, H p = none → Q (.ref p) (upd H p (.lst (xs ++ zs)))) := by
  intro pins s σ H x y v u Q I rx ry h
  obtain ⟨l, b, xs, zs, rfl, rfl, hH, hB, hz, q⟩ := h
  cases rx
  cases ry
  obtain ⟨its, r, e, z⟩ := I.list hH
  obtain ⟨its2, r2, e2, z2⟩ := I.list hB
  have hl := r.length
  have hl2 := r2.length
  refine add_isList e.isList e2.isList ?_ (by omega)
  exact ⟨.ref _, _, I.lnew (t' := s.toks) (r.append r2) (by rw [List.length_append]; omega), rfl, q _ I.fresh⟩
def pyOp : BOp → Operator
  | .add => .Add | .sub => .Sub | .mul => .Mult | .fdiv => .FloorDiv | .mod => .Mod | .pow => .Pow | .band => .BitAnd
def pyCmp : COp → CmpOp
  | .eq => .Eq | .ne => .NotEq | .lt => .Lt | .le => .LtE | .gt => .Gt | .ge => .GtE | .isin => .In | .notin => .NotIn
theorem op_bin (o : BOp) : OpR X (binaryOp (pyOp o)) (rOp X.K (binD o)) := by
  intro pins s σ H x y v u Q I rx ry h
  obtain ⟨ι, F, M, a, b, d, f, m, ra, rb, e, q⟩ := h
  unfold binD at e
  split at e
  · cases e; rw [ra.int] at rx; rw [rb.int] at ry
    exact op_add pins s σ H _ _ v u Q I rx ry ⟨_, _, rfl, rfl, fin_same f m q (.int _)⟩
  · cases e; rw [ra.int] at rx; rw [rb.int] at ry
    exact op_sub pins s σ H _ _ v u Q I rx ry ⟨_, _, rfl, rfl, fin_same f m q (.int _)⟩
  · split at e
    · rename_i hc; cases e; rw [ra.int] at rx; rw [rb.int] at ry
      exact op_mul pins s σ H _ _ v u Q I rx ry ⟨_, _, rfl, rfl, (of_decide_eq_true hc : (_ ∧ _) ∨ (_ ∧ _)), fin_same f m q (.int _)⟩
    · cases e
  · split at e
    · rename_i hc; cases e; rw [ra.int] at rx; rw [rb.int] at ry
      exact op_fdiv pins s σ H _ _ v u Q I rx ry ⟨_, _, rfl, rfl, hc, fin_same f m q (.int _)⟩
    · cases e
  · split at e
    · rename_i hc; cases e; rw [ra.int] at rx; rw [rb.int] at ry
      exact op_mod pins s σ H _ _ v u Q I rx ry ⟨_, _, rfl, rfl, hc, fin_same f m q (.int _)⟩
    · cases e
  · split at e
    · rename_i hc; cases e; rw [ra.int] at rx; rw [rb.int] at ry
      exact op_pow pins s σ H _ _ v u Q I rx ry ⟨_, _, rfl, rfl, hc, fin_same f m q (.int _)⟩
    · cases e
  · cases e; rw [ra.int] at rx; rw [rb.int] at ry
    exact op_and pins s σ H _ _ v u Q I rx ry ⟨_, _, rfl, rfl, fin_same f m q (.int _)⟩
  · split at e
    · rename_i hc; cases e; rw [ra.str] at rx; rw [rb.str] at ry
      exact op_add_str pins s σ H _ _ v u Q I rx ry ⟨_, _, rfl, rfl, hc, fin_same f m q (.str _)⟩
    · cases e
  · split at e
    · rename_i hc; cases e
      obtain ⟨p1, v1, rfl, a1, r1⟩ := ra.lst f
      obtain ⟨p2, v2, rfl, a2, r2⟩ := rb.lst f
      refine op_addL pins s σ H _ _ v u Q I rx ry ⟨_, _, _, _, rfl, rfl, a1, a2, by rw [r1.length, r2.length]; exact hc, fun p hp => ?_⟩
      exact fin_new f m q hp (rep_new_lst f hp (r1.append r2))
    · cases e
  · split at e
    · rename_i hc; cases e
      obtain ⟨p1, v1, rfl, a1, a1', r1⟩ := ra.tup f
      obtain ⟨p2, v2, rfl, a2, a2', r2⟩ := rb.tup f
      refine op_catA pins s σ H _ _ v u Q I rx ry ⟨_, _, _, _, rfl, rfl, a1, a2, by rw [r1.length, r2.length]; exact hc, fun e => ?_, fun _ e => ?_, fun _ _ p hp => ?_⟩
      · subst e; cases r1; exact fin_same f m q (.tup a2' (by simpa using r2))
      · subst e; cases r2; exact fin_same f m q (.tup a1' (by simpa using r1))
      · exact fin_new f m q hp (rep_new_tup f hp (r1.append r2))
    · cases e
  · cases e
theorem decS {x y : Str} : decide (V.str x = V.str y) = decide (x = y) := by simp
theorem decI {x y : Int} : decide (V.int x = V.int y) = decide (x = y) := by simp
theorem decB {x y : Bool} : decide (V.bl x = V.bl y) = decide (x = y) := by simp
theorem op_eqV (hu : X.A.units + 64 < cLine) : OpR X (compareOp .Eq) (rOp X.K (cmpD .eq)) := by
  intro pins s σ H x y v u Q I rx ry h
  obtain ⟨ι, F, M, a, b, d, f, m, ra, rb, e, q⟩ := h
  simp only [cmpD, eqD, Option.map_eq_some_iff] at e
  obtain ⟨r, e, rfl⟩ := e
  split at e
  · cases e; rw [ra.str] at rx; rw [rb.str] at ry
    refine op_eq pins s σ H _ _ v u Q I rx ry ⟨rfl, ?_⟩
    rw [decS]
    exact fin_same f m q (.bl _)
  · cases e; rw [ra.int] at rx; rw [rb.int] at ry
    refine op_eq pins s σ H _ _ v u Q I rx ry ⟨rfl, ?_⟩
    rw [decI]
    exact fin_same f m q (.bl _)
  · cases e; rw [ra.bl] at rx; rw [rb.bl] at ry
    refine op_eq pins s σ H _ _ v u Q I rx ry ⟨rfl, ?_⟩
    rw [decB]
    exact fin_same f m q (.bl _)
  split at e
  · rename_i p1 p2 e1 e2
    split at e
    · rename_i hs; cases e
      exact op_eqD hu pins s σ H _ _ v u Q I rx ry ⟨_, _, ra.dp f e1, rb.dp f e2, hs.1, hs.2, fin_same f m q (.bl _)⟩
    · cases e
  · cases e
theorem op_neV (hu : X.A.units + 64 < cLine) : OpR X (compareOp .NotEq) (rOp X.K (cmpD .ne)) := by
  intro pins s σ H x y v u Q I rx ry h
  obtain ⟨ι, F, M, a, b, d, f, m, ra, rb, e, q⟩ := h
  simp only [cmpD, eqD, Option.map_eq_some_iff] at e
  obtain ⟨r, e, rfl⟩ := e
  split at e
  · cases e; rw [ra.str] at rx; rw [rb.str] at ry
    refine op_ne pins s σ H _ _ v u Q I rx ry ⟨rfl, ?_⟩
    rw [decS]
    exact fin_same f m q (.bl _)
  · cases e; rw [ra.int] at rx; rw [rb.int] at ry
    refine op_ne pins s σ H _ _ v u Q I rx ry ⟨rfl, ?_⟩
    rw [decI]
    exact fin_same f m q (.bl _)
  · cases e; rw [ra.bl] at rx; rw [rb.bl] at ry
    refine op_ne pins s σ H _ _ v u Q I rx ry ⟨rfl, ?_⟩
    rw [decB]
    exact fin_same f m q (.bl _)
  split at e
  · rename_i p1 p2 e1 e2
    split at e
    · rename_i hs; cases e
      exact op_neD hu pins s σ H _ _ v u Q I rx ry ⟨_, _, ra.dp f e1, rb.dp f e2, hs.1, hs.2, fin_same f m q (.bl _)⟩
    · cases e
  · cases e
/-- a flat value -/
def vOf : D → V
  | .bl b => .bl b | .int i => .int i | .str s => .str s | _ => .non
theorem RepR.flat {v : V} {d : D} (h : RepR K ι F H v d) (e : flatD d = true) : v = vOf d ∧ flatV (vOf d) = true := by
  cases d with
  | non => exact ⟨h.non, rfl⟩
  | bl b => exact ⟨h.bl, rfl⟩
  | int b => exact ⟨h.int, rfl⟩
  | str b => exact ⟨h.str, rfl⟩
  | _ => cases e
theorem eqF_eqV : ∀ {a b : D}, flatD a = true → flatD b = true → eqV (vOf a) (vOf b) = eqF a b := by
  intro a b ha hb
  cases a <;> first | (cases ha; done) | (cases b <;> first | (cases hb; done) | rfl)
theorem flats {ds : List D} : ∀ {vs : List V}, Reps K ι F vs ds → ds.all flatD = true → vs = ds.map vOf ∧ (ds.map vOf).all flatV = true := by
  induction ds with
  | nil => intro vs r _; cases r; exact ⟨rfl, rfl⟩
  | cons d ds ih =>
    intro vs r h
    cases r with
    | cons r1 r2 =>
      simp only [List.all_cons, Bool.and_eq_true] at h
      obtain ⟨e1, e2⟩ := ih r2 h.2
      obtain ⟨z1, z2⟩ := RepR.flat (H := fun _ => none) (.inl r1) h.1
      refine ⟨by rw [z1, e1]; rfl, ?_⟩
      simp only [List.map_cons, List.all_cons, Bool.and_eq_true]
      exact ⟨z2, e2⟩
theorem inV_map {x : D} (hx : flatD x = true) : ∀ {ds : List D}, ds.all flatD = true → inV (vOf x) (ds.map vOf) = ds.any fun y => eqF y x
  | [], _ => rfl
  | d :: ds, h => by
    simp only [List.all_cons, Bool.and_eq_true] at h
    have ih := inV_map hx h.2
    unfold inV at ih ⊢
    simp only [List.map_cons, List.any_cons, ih, eqF_eqV h.1 hx]
theorem op_inV (hu : X.A.units + 64 < cLine) : OpR X (compareOp .In) (rOp X.K (cmpD .isin)) := by
  intro pins s σ H x y v u Q I rx ry h
  obtain ⟨ι, F, M, a, b, d, f, m, ra, rb, e, q⟩ := h
  simp only [cmpD] at e
  split at e
  · rename_i ds
    simp only [memG, Option.map_eq_some_iff] at e
    obtain ⟨r, e, rfl⟩ := e
    split at e
    · rename_i r' em
      cases e
      simp only [memD] at em
      split at em
      · rename_i hc; cases em
        obtain ⟨z1, z2⟩ := ra.flat hc.1
        obtain ⟨p, vs, rfl, a1, r1⟩ := rb.lst f
        obtain ⟨z3, z4⟩ := flats r1 hc.2
        subst z1; subst z3
        refine op_in_seq pins s σ H _ _ v u Q I rx ry ⟨_, _, rfl, .inl a1, z2, z4, ?_⟩
        rw [inV_map hc.1 hc.2]
        exact fin_same f m q (.bl _)
      · cases em
    · split at e
      · rename_i pa pb e1 e2
        split at e
        · rename_i hc; cases e
          have hb : D.py (.lst ds) = some (.list pb) := by simp only [D.py, e2, Option.map_some]
          obtain ⟨as, r1⟩ := Dp.reads I pa x v (ra.dp f e1) rx
          obtain ⟨bs, r2⟩ := Dp.reads I (.list pb) y u (rb.dp f hb) ry
          exact SeqAt.in_list_reads r2 r1 hc.2.1 hc.1 (by have := hc.2.2; omega) ⟨.bl _, H, I, rfl, fin_same f m q (.bl _)⟩
        · cases e
      · cases e
  · simp only [memD, Option.map_eq_some_iff] at e
    obtain ⟨r, e, rfl⟩ := e
    split at e
    · rename_i hc; cases e
      obtain ⟨z1, z2⟩ := ra.flat hc.1
      obtain ⟨p, vs, rfl, a1, _, r1⟩ := rb.tup f
      obtain ⟨z3, z4⟩ := flats r1 hc.2
      subst z1; subst z3
      refine op_in_seq pins s σ H _ _ v u Q I rx ry ⟨_, _, rfl, .inr a1, z2, z4, ?_⟩
      rw [inV_map hc.1 hc.2]
      exact fin_same f m q (.bl _)
    · cases e
  · simp only [memD, Option.map_eq_some_iff] at e
    obtain ⟨r, e, rfl⟩ := e
    split at e
    · rename_i hc; cases e
      obtain ⟨z1, z2⟩ := ra.flat hc.1
      obtain ⟨p, vs, rfl, a1, r1⟩ := rb.ktup f
      obtain ⟨z3, z4⟩ := flats r1 hc.2
      subst z1; subst z3
      refine op_in_seq pins s σ H _ _ v u Q I rx ry ⟨_, _, rfl, .inr a1, z2, z4, ?_⟩
      rw [inV_map hc.1 hc.2]
      exact fin_same f m q (.bl _)
    · cases e
  · cases e
theorem op_notinV (hu : X.A.units + 64 < cLine) : OpR X (compareOp .NotIn) (rOp X.K (cmpD .notin)) := by
  intro pins s σ H x y v u Q I rx ry h
  obtain ⟨ι, F, M, a, b, d, f, m, ra, rb, e, q⟩ := h
  simp only [cmpD] at e
  split at e
  · rename_i ds
    simp only [memG, Option.map_eq_some_iff] at e
    obtain ⟨r, e, rfl⟩ := e
    split at e
    · rename_i r' em
      cases e
      simp only [memD] at em
      split at em
      · rename_i hc; cases em
        obtain ⟨z1, z2⟩ := ra.flat hc.1
        obtain ⟨p, vs, rfl, a1, r1⟩ := rb.lst f
        obtain ⟨z3, z4⟩ := flats r1 hc.2
        subst z1; subst z3
        refine op_notIn_seq pins s σ H _ _ v u Q I rx ry ⟨_, _, rfl, .inl a1, z2, z4, ?_⟩
        rw [inV_map hc.1 hc.2]
        exact fin_same f m q (.bl _)
      · cases em
    · split at e
      · rename_i pa pb e1 e2
        split at e
        · rename_i hc; cases e
          have hb : D.py (.lst ds) = some (.list pb) := by simp only [D.py, e2, Option.map_some]
          obtain ⟨as, r1⟩ := Dp.reads I pa x v (ra.dp f e1) rx
          obtain ⟨bs, r2⟩ := Dp.reads I (.list pb) y u (rb.dp f hb) ry
          exact SeqAt.notIn_list_reads r2 r1 hc.2.1 hc.1 (by have := hc.2.2; omega) ⟨.bl _, H, I, rfl, fin_same f m q (.bl _)⟩
        · cases e
      · cases e
  · simp only [memD, Option.map_eq_some_iff] at e
    obtain ⟨r, e, rfl⟩ := e
    split at e
    · rename_i hc; cases e
      obtain ⟨z1, z2⟩ := ra.flat hc.1
      obtain ⟨p, vs, rfl, a1, _, r1⟩ := rb.tup f
      obtain ⟨z3, z4⟩ := flats r1 hc.2
      subst z1; subst z3
      refine op_notIn_seq pins s σ H _ _ v u Q I rx ry ⟨_, _, rfl, .inr a1, z2, z4, ?_⟩
      rw [inV_map hc.1 hc.2]
      exact fin_same f m q (.bl _)
    · cases e
  · simp only [memD, Option.map_eq_some_iff] at e
    obtain ⟨r, e, rfl⟩ := e
    split at e
    · rename_i hc; cases e
      obtain ⟨z1, z2⟩ := ra.flat hc.1
      obtain ⟨p, vs, rfl, a1, r1⟩ := rb.ktup f
      obtain ⟨z3, z4⟩ := flats r1 hc.2
      subst z1; subst z3
      refine op_notIn_seq pins s σ H _ _ v u Q I rx ry ⟨_, _, rfl, .inr a1, z2, z4, ?_⟩
      rw [inV_map hc.1 hc.2]
      exact fin_same f m q (.bl _)
    · cases e
  · cases e
theorem op_cmpI {o : COp} {f : Value → Value → Sem Value} {g : Int → Int → Bool} (ho : OpR X f (rI0 fun i j => .bl (g i j)))
    (hg : ∀ a b d, cmpD o a b = some d → ∃ i j, a = .int i ∧ b = .int j ∧ d = .bl (g i j)) : OpR X f (rOp X.K (cmpD o)) := by
  intro pins s σ H x y v u Q I rx ry h
  obtain ⟨ι, F, M, a, b, d, f, m, ra, rb, e, q⟩ := h
  obtain ⟨i, j, rfl, rfl, rfl⟩ := hg a b d e
  rw [ra.int] at rx; rw [rb.int] at ry
  exact ho pins s σ H _ _ v u Q I rx ry ⟨_, _, rfl, rfl, fin_same f m q (.bl _)⟩
theorem op_cmp (hu : X.A.units + 64 < cLine) (o : COp) : OpR X (compareOp (pyCmp o)) (rOp X.K (cmpD o)) := by
  cases o with
  | eq => exact op_eqV hu
  | ne => exact op_neV hu
  | isin => exact op_inV hu
  | notin => exact op_notinV hu
  | lt =>
    refine op_cmpI op_lt fun a b d e => ?_
    simp only [cmpD] at e
    split at e
    · cases e; exact ⟨_, _, rfl, rfl, rfl⟩
    · cases e
  | le =>
    refine op_cmpI op_le fun a b d e => ?_
    simp only [cmpD] at e
    split at e
    · cases e; exact ⟨_, _, rfl, rfl, rfl⟩
    · cases e
  | gt =>
    refine op_cmpI op_gt fun a b d e => ?_
    simp only [cmpD] at e
    split at e
    · cases e; exact ⟨_, _, rfl, rfl, rfl⟩
    · cases e
  | ge =>
    refine op_cmpI op_ge fun a b d e => ?_
    simp only [cmpD] at e
    split at e
    · cases e; exact ⟨_, _, rfl, rfl, rfl⟩
    · cases e

/-! ### items, slices, calls of built-ins -/
theorem Reps.atI {vs : List V} {ds : List D} {i : Int} {d : D} (r : Reps K ι F vs ds) (h : L2.atI ds i = some d) : ∃ v, L2.atI vs i = some v ∧ Rep K ι F v d := by
  unfold L2.atI at h ⊢
  rw [r.length]
  cases e : ixN ds.length i with
  | none => rw [e] at h; cases h
  | some j =>
    rw [e] at h
    exact r.get h
theorem ix_V : IxR X (rOp X.K ixD) := by
  intro value slice pins s σ H x y v u Q I rx ry h hs
  obtain ⟨ι, F, M, a, b, d, f, m, ra, rb, e, q⟩ := h
  unfold ixD at e
  split at e
  · obtain ⟨p, vs, rfl, a1, r1⟩ := ra.lst f
    rw [rb.int] at ry
    obtain ⟨z, e1, r2⟩ := r1.atI e
    exact ix_list value slice pins s σ H _ _ v u Q I rx ry ⟨p, vs, _, z, rfl, rfl, a1, e1, fin_same f m q r2⟩ hs
  · obtain ⟨p, vs, rfl, a1, _, r1⟩ := ra.tup f
    rw [rb.int] at ry
    obtain ⟨z, e1, r2⟩ := r1.atI e
    exact ix_tup value slice pins s σ H _ _ v u Q I rx ry ⟨p, vs, _, z, rfl, rfl, a1, e1, fin_same f m q r2⟩ hs
  · cases e
def rSl (K : PySem.W.Frag) : V → Option Int → Option Int → Hp → VK → Prop := fun x lo hi H Q => ∃ ι F M a d, FSub F H ∧ MemRep K ι F M H ∧ RepR K ι F H x a ∧ slD a lo hi = some d ∧
  ∀ F' H' v, Stp ι F H ι F' H' → FSub F' H' → MemRep K ι F' M H' → Rep K ι F' v d → Q v H'
theorem Reps.cut {vs : List V} {ds : List D} (lo hi : Option Int) (r : Reps K ι F vs ds) : Reps K ι F (cutV vs lo hi) (cutD ds lo hi) := by
  unfold cutV cutD
  rw [r.length]
  exact (r.drop _).take _
theorem sl_V : SlR X (rSl X.K) := by
  intro pins s σ H x v vl vu lo hi sl Q I rx hs pl pu h
  obtain ⟨ι, F, M, a, d, f, m, ra, e, q⟩ := h
  cases a with
  | lst ds =>
    simp only [slD, Option.some.injEq] at e
    subst e
    obtain ⟨p, vs, rfl, a1, r1⟩ := ra.lst f
    exact sl_list pins s σ H _ v vl vu lo hi sl Q I rx hs pl pu ⟨p, vs, rfl, a1, fun p hp => fin_new f m q hp (rep_new_lst f hp (r1.cut _ _))⟩
  | tup ds =>
    simp only [slD] at e
    split at e
    · cases e
    · rename_i hc
      cases e
      obtain ⟨p, vs, rfl, a1, _, r1⟩ := ra.tup f
      exact sl_tup pins s σ H _ v vl vu lo hi sl Q I rx hs pl pu ⟨p, vs, rfl, a1, by rw [r1.length]; exact hc, fun p hp => fin_new f m q hp (rep_new_tup f hp (r1.cut _ _))⟩
  | _ => simp [slD] at e
theorem intsOf_map : ∀ {ds : List D} {ns : List Int}, intsOf ds = some ns → ds = ns.map D.int
  | [], ns, h => by simp only [intsOf, Option.some.injEq] at h; subst h; rfl
  | d :: ds, ns, h => by
    cases d <;> simp only [intsOf, Option.map_eq_some_iff, reduceCtorEq] at h
    obtain ⟨r, h, rfl⟩ := h
    rw [intsOf_map h]; rfl
theorem blsOf_map : ∀ {ds : List D} {ns : List Bool}, blsOf ds = some ns → ds = ns.map D.bl
  | [], ns, h => by simp only [blsOf, Option.some.injEq] at h; subst h; rfl
  | d :: ds, ns, h => by
    cases d <;> simp only [blsOf, Option.map_eq_some_iff, reduceCtorEq] at h
    obtain ⟨r, h, rfl⟩ := h
    rw [blsOf_map h]; rfl
theorem Reps.ints : ∀ {ns : List Int} {vs : List V}, Reps K ι F vs (ns.map D.int) → vs = ns.map V.int
  | [], _, .nil => rfl
  | n :: ns, _, .cons a r => by
    cases a
    rw [r.ints]; rfl
theorem Reps.bls : ∀ {ns : List Bool} {vs : List V}, Reps K ι F vs (ns.map D.bl) → vs = ns.map V.bl
  | [], _, .nil => rfl
  | n :: ns, _, .cons a r => by
    cases a
    rw [r.bls]; rfl
def pyBlt : Blt → Value
  | .len => .builtin "len" | .int => .type "int" | .list => .type "list" | .tuple => .type "tuple" | .max => .builtin "max" | .min => .builtin "min"
  | .abs => .builtin "abs" | .sum => .builtin "sum" | .sorted => .builtin "sorted" | .any => .builtin "any" | .all => .builtin "all" | .str => .type "str"
theorem RepsR.one {vs : List V} {d : D} (h : RepsR K ι F H vs [d]) : ∃ v, vs = [v] ∧ RepR K ι F H v d := by
  cases h with | cons a r => cases r; exact ⟨_, rfl, a⟩
theorem RepsR.two {vs : List V} {d e : D} (h : RepsR K ι F H vs [d, e]) : ∃ v w, vs = [v, w] ∧ RepR K ι F H v d ∧ RepR K ι F H w e := by
  cases h with | cons a r => cases r with | cons b r => cases r; exact ⟨_, _, rfl, a, b⟩
/-! ### the greatest, the least, sorted -/
theorem foldMax : ∀ (l : List Int) (a : Int), a ≤ l.foldl max a ∧ (∀ y ∈ l, y ≤ l.foldl max a) ∧ (l.foldl max a = a ∨ l.foldl max a ∈ l)
  | [], a => ⟨Int.le_refl _, (fun _ h => by cases h), .inl rfl⟩
  | b :: l, a => by
    obtain ⟨h1, h2, h3⟩ := foldMax l (max a b)
    refine ⟨by show a ≤ l.foldl max (max a b); omega, fun y hy => ?_, ?_⟩
    · show y ≤ l.foldl max (max a b)
      rcases List.mem_cons.mp hy with rfl | hy
      · omega
      · exact h2 y hy
    · show l.foldl max (max a b) = a ∨ l.foldl max (max a b) ∈ b :: l
      rcases h3 with h3 | h3
      · by_cases e : a ≤ b
        · exact .inr (by rw [h3, Int.max_eq_right e]; exact List.mem_cons_self)
        · exact .inl (by rw [h3]; omega)
      · exact .inr (List.mem_cons_of_mem _ h3)
theorem foldMin : ∀ (l : List Int) (a : Int), l.foldl min a ≤ a ∧ (∀ y ∈ l, l.foldl min a ≤ y) ∧ (l.foldl min a = a ∨ l.foldl min a ∈ l)
  | [], a => ⟨Int.le_refl _, (fun _ h => by cases h), .inl rfl⟩
  | b :: l, a => by
    obtain ⟨h1, h2, h3⟩ := foldMin l (min a b)
    refine ⟨by show l.foldl min (min a b) ≤ a; omega, fun y hy => ?_, ?_⟩
    · show l.foldl min (min a b) ≤ y
      rcases List.mem_cons.mp hy with rfl | hy
      · omega
      · exact h2 y hy
    · show l.foldl min (min a b) = a ∨ l.foldl min (min a b) ∈ b :: l
      rcases h3 with h3 | h3
      · by_cases e : b ≤ a
        · exact .inr (by rw [h3, Int.min_eq_right e]; exact List.mem_cons_self)
        · exact .inl (by rw [h3]; omega)
      · exact .inr (List.mem_cons_of_mem _ h3)
theorem maxL_ok {ns : List Int} {m : Int} (h : maxL ns = some m) : 0 < ns.length ∧ ∀ k, k ∈ ns → (∀ y, y ∈ ns → y ≤ k) → k = m := by
  cases ns with
  | nil => cases h
  | cons a r =>
    simp only [maxL, Option.some.injEq] at h
    subst h
    obtain ⟨h1, h2, h3⟩ := foldMax r a
    refine ⟨by simp, fun k hk hy => ?_⟩
    have e1 : r.foldl max a ≤ k := by
      rcases h3 with h3 | h3
      · rw [h3]; exact hy a List.mem_cons_self
      · exact hy _ (List.mem_cons_of_mem _ h3)
    rcases List.mem_cons.mp hk with rfl | hk
    · omega
    · have := h2 k hk; omega
theorem minL_ok {ns : List Int} {m : Int} (h : minL ns = some m) : 0 < ns.length ∧ ∀ k, k ∈ ns → (∀ y, y ∈ ns → k ≤ y) → k = m := by
  cases ns with
  | nil => cases h
  | cons a r =>
    simp only [minL, Option.some.injEq] at h
    subst h
    obtain ⟨h1, h2, h3⟩ := foldMin r a
    refine ⟨by simp, fun k hk hy => ?_⟩
    have e1 : k ≤ r.foldl min a := by
      rcases h3 with h3 | h3
      · rw [h3]; exact hy a List.mem_cons_self
      · exact hy _ (List.mem_cons_of_mem _ h3)
    rcases List.mem_cons.mp hk with rfl | hk
    · omega
    · have := h2 k hk; omega
theorem sort_uniq {ns ms : List Int} (hp : ms.Perm ns) (hs : ms.Pairwise (· ≤ ·)) : ms = ns.mergeSort (fun a b => decide (a ≤ b)) := by
  refine List.Perm.eq_of_pairwise (le := (· ≤ ·)) (fun a b _ _ h1 h2 => Int.le_antisymm h1 h2) hs ?_ (hp.trans (List.mergeSort_perm ns _).symm)
  have := List.pairwise_mergeSort (le := fun a b : Int => decide (a ≤ b)) (fun a b c h1 h2 => by simp only [decide_eq_true_eq] at *; omega) (fun a b => by simp only [Bool.or_eq_true, decide_eq_true_eq]; omega) ns
  simpa only [decide_eq_true_eq] using this
theorem sortP_uniq {ns ms : List (Int × Int)} (hp : ms.Perm ns) (hs : ms.Pairwise fun a b => lePB a b = true) : ms = ns.mergeSort lePB := by
  refine List.Perm.eq_of_pairwise (le := fun a b => lePB a b = true) (fun a b _ _ h1 h2 => ?_) hs ?_ (hp.trans (List.mergeSort_perm ns _).symm)
  · simp only [lePB, decide_eq_true_eq] at h1 h2
    exact Prod.ext (by omega) (by omega)
  · exact List.pairwise_mergeSort (le := lePB) (fun a b c h1 h2 => by simp only [lePB, decide_eq_true_eq] at *; omega) (fun a b => by simp only [lePB, Bool.or_eq_true, decide_eq_true_eq]; omega) ns
theorem pairsOf_map : ∀ {ds : List D} {ps : List (Int × Int)}, pairsOf ds = some ps → ds = ps.map fun p => .tup [.int p.1, .int p.2]
  | [], ps, h => by simp only [pairsOf, Option.some.injEq] at h; subst h; rfl
  | d :: ds, ps, h => by
    unfold pairsOf at h
    split at h
    · rename_i e; cases e
    · rename_i i j r e
      cases e
      simp only [Option.map_eq_some_iff] at h
      obtain ⟨qs, h, rfl⟩ := h
      rw [pairsOf_map h]; rfl
    · cases h
theorem Reps.pairs : ∀ {ps : List (Int × Int)} {vs : List V}, Reps K ι F vs (ps.map fun p => .tup [.int p.1, .int p.2]) → ∀ x ∈ vs, ∃ p : Int × Int, ∃ t, x = .ref t ∧ F t = some (.tup [.int p.1, .int p.2])
  | [], _, h, x, hx => by cases h; cases hx
  | p :: ps, _, h, x, hx => by
    cases h with
    | cons h r =>
      rcases List.mem_cons.mp hx with rfl | hx
      · cases h with
        | tup a q =>
          cases q with | cons q1 q => cases q with | cons q2 q => cases q; cases q1; cases q2; exact ⟨p, _, rfl, a⟩
      · exact Reps.pairs r x hx
theorem Reps.keys {X : Cx} {pins : List (Addr × Obj)} {s : Shared} {σ : L2.St} {k : V → Int × Int} (I : L2.Inv X pins σ H s) (f : FSub F H) : ∀ {ps : List (Int × Int)} {vs : List V}, Reps X.K ι F vs (ps.map fun p => .tup [.int p.1, .int p.2]) → (∀ x ∈ vs, ∃ t, x = .ref t ∧ F t = some (.tup [.int (k x).1, .int (k x).2])) → vs.map k = ps
  | [], _, h, _ => by cases h; rfl
  | p :: ps, _, h, hk => by
    cases h with
    | cons h r =>
      rw [List.map_cons, Reps.keys I f r fun x hx => hk x (List.mem_cons_of_mem _ hx)]
      congr 1
      obtain ⟨t, e, q⟩ := hk _ List.mem_cons_self
      cases h with
      | tup a q' =>
        cases q' with
        | cons q1 q2 =>
          cases q2 with
          | cons q2 q3 =>
            cases q3; cases q1; cases q2
            cases e
            rw [a] at q
            injection q with this
            injection this with this
            injection this with h1 h2
            injection h2 with h2 _
            injection h1 with h1
            injection h2 with h2
            exact Prod.ext h1.symm h2.symm
/-- a pair of ints lies there -/
theorem pair_there {X : Cx} {pins : List (Addr × Obj)} {sh : Shared} {σ : L2.St} {c : Addr} {p : Int × Int} (I : L2.Inv X pins σ H sh) (h : SqT X.K H c [.int p.1, .int p.2]) : Srt.IsPair sh.heap (.ref c) p.1 p.2 := by
  obtain ⟨parts, rel, ⟨ob, at_, cls, ep, dat⟩, _⟩ := I.tuple h
  obtain ⟨v1, v2, rfl, ⟨t1, r1⟩, ⟨t2, r2⟩⟩ := vals2 rel
  subst r1 r2
  exact ⟨c, ob, t1, t2, ep, rfl, at_, cls, dat⟩
/-- sorted(xs), xs pairs of ints, wherever their tuples come from -/
theorem cr_sortedPX {X : Cx} : CallR X (.builtin "sorted") (fun vs H Q => ∃ (a : Addr) (xs : List V) (k : V → Int × Int), vs = [V.ref a] ∧ SqL X.K H a xs ∧ (∀ x ∈ xs, ∃ t, x = V.ref t ∧ SqT X.K H t [.int (k x).1, .int (k x).2]) ∧
  ∀ ys p, SrtO.Srtd (ltP k) ys → SrtO.Stb (ltP k) ys xs → H p = none → Q (.ref p) (upd H p (.lst ys))) := by
  intro pins sh σ hp args us Q I rel ⟨a, xs, k, ea, sq, par, fin⟩
  subst ea
  obtain ⟨w0, rfl, rw0⟩ := vals1 rel
  cases rw0
  obtain ⟨its, rv, pl, small⟩ := I.list sq
  obtain ⟨back, refs⟩ := refs_back rv fun x m => (par x m).imp fun _ z => z.1
  have small' : its.length ≤ sizeLine := rv.length ▸ small
  refine SrtO.sorted_pairsO (k := k ∘ backV) pl.isList small' (fun v hv => ?_) fun h2 d out so st keep hd ⟨ep, e⟩ => ?_
  · obtain ⟨c, rfl⟩ := refs v hv
    obtain ⟨c', ec, q⟩ := par (.ref c) (back ▸ List.mem_map.mpr ⟨_, hv, rfl⟩)
    cases ec
    exact pair_there I q
  · have stb : SrtO.Stb (ltP k) (out.map backV) xs := back ▸ SrtO.Stb.map (ltP_swo k) backV st
    have vo := vals_back fun u hu => refs u (st.perm.mem_iff.mp hu)
    exact ⟨.ref d, _, I.laid (o := .lst (out.map backV)) (t' := sh.toks) keep hd ⟨stb.len ▸ small, out, ep, vo, e⟩, rfl, fin _ d (SrtO.srtd_map so) stb (I.hok.fresh hd)⟩
theorem ltP_le {k : V → Int × Int} {x y : V} (h : ltP k y x = false) : lePB (k x) (k y) = true := by
  have := SrtO.lexB_no.mp h
  simp only [lePB, decide_eq_true_eq]; omega
theorem cl_blt (hc : X.calm = true) (b : Blt) : CallR X (pyBlt b) (rCl X.K (bltD b)) := by
  intro pins s σ H xs us Q I r h
  obtain ⟨ι, F, M, as, d, f, m, ra, e, q⟩ := h
  unfold bltD at e
  split at e
  · cases e
    obtain ⟨v, rfl, r1⟩ := ra.one
    obtain ⟨p, vs, rfl, a1, r2⟩ := r1.lst f
    refine call_len_seq pins s σ H _ us Q I r ⟨p, vs, rfl, .inl a1, ?_⟩
    rw [r2.length]; exact fin_same f m q (.int _)
  · cases e
    obtain ⟨v, rfl, r1⟩ := ra.one
    obtain ⟨p, vs, rfl, a1, _, r2⟩ := r1.tup f
    refine call_len_seq pins s σ H _ us Q I r ⟨p, vs, rfl, .inr a1, ?_⟩
    rw [r2.length]; exact fin_same f m q (.int _)
  · cases e
    obtain ⟨v, rfl, r1⟩ := ra.one
    obtain ⟨p, kvs, rfl, a1, r2⟩ := r1.dic f
    refine cr_lenD pins s σ H _ us Q I r ⟨p, kvs, rfl, a1, ?_⟩
    have e := repK_len r2
    rw [List.length_map] at e
    rw [e]
    exact fin_same f m q (.int _)
  · cases e
    obtain ⟨v, rfl, r1⟩ := ra.one
    obtain ⟨p, vs, rfl, a1, r2⟩ := r1.ktup f
    refine call_len_seq pins s σ H _ us Q I r ⟨p, vs, rfl, .inr a1, ?_⟩
    rw [r2.length]; exact fin_same f m q (.int _)
  · cases e
    obtain ⟨v, rfl, r1⟩ := ra.one
    rw [r1.int] at r
    exact call_int1 pins s σ H _ us Q I r (.inl ⟨_, rfl, fin_same f m q (.int _)⟩)
  · cases e
    obtain ⟨v, rfl, r1⟩ := ra.one
    rw [r1.bl] at r
    exact call_int1 pins s σ H _ us Q I r (.inr ⟨_, rfl, fin_same f m q (.int _)⟩)
  · cases e
    obtain ⟨v, rfl, r1⟩ := ra.one
    obtain ⟨p, vs, rfl, a1, r2⟩ := r1.lst f
    exact call_list_of pins s σ H _ us Q I r ⟨p, vs, rfl, .inl a1, fun p hp => fin_new f m q hp (rep_new_lst f hp r2)⟩
  · cases e
    obtain ⟨v, rfl, r1⟩ := ra.one
    obtain ⟨p, vs, rfl, a1, _, r2⟩ := r1.tup f
    exact call_list_of pins s σ H _ us Q I r ⟨p, vs, rfl, .inr a1, fun p hp => fin_new f m q hp (rep_new_lst f hp r2)⟩
  · cases e
    obtain ⟨v, rfl, r1⟩ := ra.one
    rename_i tt kvs0
    cases tt with
    | true =>
      obtain ⟨p, kvs, rfl, a1, r2⟩ := r1.dicT f
      refine call_list_dT hc pins s σ H _ us Q I r ⟨p, kvs, rfl, a1, fun p bs hp hk => ?_⟩
      obtain ⟨F2, s2, f2, m2, hk2⟩ := tups_in f m hk
      exact fin_new2 s2 f2 m2 q hp (rep_new_lst f2 hp (keys_reps r2 hk2))
    | false =>
    obtain ⟨p, kvs, rfl, a1, r2⟩ := r1.dic f
    exact call_listD hc pins s σ H _ us Q I r ⟨p, kvs, rfl, a1, fun p hp => fin_new f m q hp (rep_new_lst f hp (repK_keys r2))⟩
  · cases e
    obtain ⟨v, rfl, r1⟩ := ra.one
    obtain ⟨p, vs, rfl, a1, a2, r2⟩ := r1.tup f
    exact call_tuple_of pins s σ H _ us Q I r ⟨p, vs, rfl, .inr ⟨a1, fin_same f m q (.tup a2 r2)⟩⟩
  · cases e
    obtain ⟨v, rfl, r1⟩ := ra.one
    obtain ⟨p, vs, rfl, a1, r2⟩ := r1.lst f
    exact call_tuple_of pins s σ H _ us Q I r ⟨p, vs, rfl, .inl ⟨a1, fun p hp => fin_new f m q hp (rep_new_tup f hp r2)⟩⟩
  · cases e
    obtain ⟨v, w, rfl, r1, r2⟩ := ra.two
    rw [r1.int, r2.int] at r
    exact call_max2 hc pins s σ H _ us Q I r ⟨_, _, rfl, fin_same f m q (.int _)⟩
  · cases e
    obtain ⟨v, w, rfl, r1, r2⟩ := ra.two
    rw [r1.int, r2.int] at r
    exact call_min2 hc pins s σ H _ us Q I r ⟨_, _, rfl, fin_same f m q (.int _)⟩
  · simp only [Option.bind_eq_some_iff, Option.map_eq_some_iff] at e
    obtain ⟨ns, e, x, em, rfl⟩ := e
    obtain ⟨v, rfl, r1⟩ := ra.one
    obtain ⟨p, vs, rfl, a1, r2⟩ := r1.lst f
    rw [intsOf_map e] at r2
    rw [r2.ints] at a1
    obtain ⟨g1, g2⟩ := maxL_ok em
    exact cr_max hc pins s σ H _ us Q I r ⟨p, ns, rfl, a1, g1, fun k hk hy => by rw [g2 k hk hy]; exact fin_same f m q (.int _)⟩
  · simp only [Option.bind_eq_some_iff, Option.map_eq_some_iff] at e
    obtain ⟨ns, e, x, em, rfl⟩ := e
    obtain ⟨v, rfl, r1⟩ := ra.one
    obtain ⟨p, vs, rfl, a1, r2⟩ := r1.lst f
    rw [intsOf_map e] at r2
    rw [r2.ints] at a1
    obtain ⟨g1, g2⟩ := minL_ok em
    exact cr_min hc pins s σ H _ us Q I r ⟨p, ns, rfl, a1, g1, fun k hk hy => by rw [g2 k hk hy]; exact fin_same f m q (.int _)⟩
  · simp only [Option.map_eq_some_iff] at e
    obtain ⟨ss, e, rfl⟩ := e
    obtain ⟨v, rfl, r1⟩ := ra.one
    obtain ⟨p, vs, rfl, a1, r2⟩ := r1.lst f
    unfold srtD at e
    split at e
    · rename_i ns en
      cases e
      rw [intsOf_map en] at r2
      rw [r2.ints] at a1
      refine cr_sortedI pins s σ H _ us Q I r ⟨p, ns, rfl, a1, fun ns' p hp hs hn => ?_⟩
      rw [sort_uniq hp hs]
      refine fin_new f m q hn (rep_new_lst f hn ?_)
      have reps : ∀ ns : List Int, Reps X.K ι F (ns.map V.int) (ns.map D.int) := fun ns => by
        induction ns with
        | nil => exact .nil
        | cons n ns ih => exact .cons (.int n) ih
      exact reps _
    · simp only [Option.map_eq_some_iff] at e
      obtain ⟨ps, ep, rfl⟩ := e
      rw [pairsOf_map ep] at r2
      classical
      have hk := r2.pairs
      refine cr_sortedPX pins s σ H _ us Q I r ⟨p, vs, fun x => if h : ∃ p : Int × Int, ∃ t, x = .ref t ∧ F t = some (.tup [.int p.1, .int p.2]) then Classical.choose h else (0, 0), rfl, a1, fun x hx => ?_, fun ys p hs hb hn => ?_⟩
      · dsimp only
        rw [dif_pos (hk x hx)]
        obtain ⟨t, e, q⟩ := Classical.choose_spec (hk x hx)
        exact ⟨t, e, .inl (.inl (f.tup q))⟩
      · generalize hkd : (fun x => if h : ∃ p : Int × Int, ∃ t, x = V.ref t ∧ F t = some (.tup [.int p.1, .int p.2]) then Classical.choose h else (0, 0)) = k at hs hb
        have hk2 : ∀ x ∈ vs, ∃ t, x = .ref t ∧ F t = some (.tup [.int (k x).1, .int (k x).2]) := fun x hx => by
          rw [← hkd]
          dsimp only
          rw [dif_pos (hk x hx)]
          exact Classical.choose_spec (hk x hx)
        have e1 := Reps.keys I f r2 hk2
        have e2 : ys.map k = ps.mergeSort lePB := by
          refine sortP_uniq (by rw [← e1]; exact hb.perm.map k) ?_
          rw [List.pairwise_map]
          exact hs.imp fun h => ltP_le h
        refine fin_new f m q hn (rep_new_lst f hn ?_)
        rw [← e2, List.map_map]
        have reps : ∀ l : List V, (∀ x ∈ l, ∃ t, x = .ref t ∧ F t = some (.tup [.int (k x).1, .int (k x).2])) → Reps X.K ι F l (l.map ((fun p => D.tup [.int p.1, .int p.2]) ∘ k)) := fun l => by
          induction l with
          | nil => exact fun _ => .nil
          | cons n l ih =>
            intro h
            refine .cons ?_ (ih fun x hx => h x (List.mem_cons_of_mem _ hx))
            obtain ⟨t, e, q⟩ := h n List.mem_cons_self
            have : Rep X.K ι F (.ref t) (.tup [.int (k n).1, .int (k n).2]) := .tup q (.cons (.int _) (.cons (.int _) .nil))
            rw [← e] at this
            exact this
        exact reps ys fun x hx => hk2 x (hb.perm.mem_iff.mp hx)
  · simp only [Option.map_eq_some_iff] at e
    obtain ⟨ns, e, rfl⟩ := e
    obtain ⟨v, rfl, r1⟩ := ra.one
    obtain ⟨p, kvs, rfl, a1, r2⟩ := r1.dic f
    refine cr_sortedDK hc pins s σ H _ us Q I r ⟨p, kvs, ns, rfl, a1, repK_ints r2 e, fun ns' p hp hs hn => ?_⟩
    rw [sort_uniq hp hs]
    refine fin_new f m q hn (rep_new_lst f hn ?_)
    have reps : ∀ ns : List Int, Reps X.K ι F (ns.map V.int) (ns.map D.int) := fun ns => by
      induction ns with
      | nil => exact .nil
      | cons n ns ih => exact .cons (.int n) ih
    exact reps _
  · cases e
    obtain ⟨v, rfl, r1⟩ := ra.one
    rw [r1.int] at r
    exact call_abs pins s σ H _ us Q I r ⟨_, rfl, fin_same f m q (.int _)⟩
  · simp only [Option.map_eq_some_iff] at e
    obtain ⟨ns, e, rfl⟩ := e
    obtain ⟨v, rfl, r1⟩ := ra.one
    obtain ⟨p, vs, rfl, a1, r2⟩ := r1.lst f
    rw [intsOf_map e] at r2
    rw [r2.ints] at a1
    exact cr_sum hc pins s σ H _ us Q I r ⟨p, ns, rfl, a1, fin_same f m q (.int _)⟩
  · simp only [Option.map_eq_some_iff] at e
    obtain ⟨ns, e, rfl⟩ := e
    obtain ⟨v, rfl, r1⟩ := ra.one
    obtain ⟨p, vs, rfl, a1, r2⟩ := r1.lst f
    rw [blsOf_map e] at r2
    rw [r2.bls] at a1
    exact cr_all hc pins s σ H _ us Q I r ⟨p, ns, rfl, a1, fin_same f m q (.bl _)⟩
  · simp only [Option.map_eq_some_iff] at e
    obtain ⟨ns, e, rfl⟩ := e
    obtain ⟨v, rfl, r1⟩ := ra.one
    obtain ⟨p, vs, rfl, a1, r2⟩ := r1.lst f
    rw [blsOf_map e] at r2
    rw [r2.bls] at a1
    exact cr_any hc pins s σ H _ us Q I r ⟨p, ns, rfl, a1, fin_same f m q (.bl _)⟩
  · cases e
/-! ### isinstance -/
def tyName : Ty → String
  | .int => "int" | .bool => "bool" | .str => "str" | .list => "list" | .tuple => "tuple" | .dict => "dict"
def tyD : D → String
  | .non => "NoneType" | .bl _ => "bool" | .int _ => "int" | .str _ => "str" | .tup _ => "tuple" | .lst _ => "list" | .dic _ _ => "dict" | _ => ""
theorem RepR.ty {d : D} {v : V} (f : FSub F H) (h : RepR K ι F H v d) (hd : ∀ c fs, d ≠ .ins c fs) (hr : ∀ n, d ≠ .ref n) (hk : ∀ t n, d ≠ .dic t n) (hkt : ∀ n, d ≠ .ktup n) : TyX K H v (.type (tyD d)) := by
  cases d with
  | non => rw [h.non]; exact .base .non
  | bl b => rw [h.bl]; exact .base (.bl b)
  | int b => rw [h.int]; exact .base (.int b)
  | str b => rw [h.str]; exact .base (.str b)
  | tup ds =>
    obtain ⟨p, vs, rfl, a1, _, r1⟩ := h.tup f
    rcases a1 with (a | ⟨o, a⟩) | ⟨o, its, n, a, c, _⟩
    · exact .base (.tup a)
    · exact .fTuple a
    · exact .kTuple a c
  | lst ds =>
    obtain ⟨p, vs, rfl, a1, r1⟩ := h.lst f
    rcases a1 with (a | ⟨o, a⟩) | ⟨o, its, n, a, c, _⟩
    · exact .base (.lst a)
    · exact .base (.frz a)
    · exact .kList a c
  | dic t kds => exact absurd rfl (hk t kds)
  | ktup kds => exact absurd rfl (hkt kds)
  | ins c fs => exact absurd rfl (hd c fs)
  | ref n => exact absurd rfl (hr n)
end
end
end VL
/-! VT: try with several clauses, each with a name or without -/
namespace VL
open PySem PySem.Spec PyProof.Rows L2
/-- one clause: its class, its name's slot, its suite's reading -/
structure Cls1 where
  c : Value
  i : Option Nat
  t : Addr → Value → Option Addr → TS
def setN (σ : L2.St) : Option Nat → Option V → L2.St
  | none, _ => σ
  | some i, v => σ.set i v
def endsN (D : Ends) (i : Option Nat) : Ends := { nx := fun σ H => D.nx (setN σ i none) H, rt := D.rt, bk := fun σ H => D.bk (setN σ i none) H, ct := fun σ H => D.ct (setN σ i none) H }
/-- what the clauses want of an exception -/
def wHds (K : PySem.W.Frag) (Wo : WX) (D : Ends) : List Cls1 → WX
  | [] => Wo
  | h :: r => fun cls d σ H => ∃ b, PySem.W.exmOne K cls h.c = some b ∧ (b = true → ∀ a, H a = none → h.t a cls d (endsN D h.i) (setN σ h.i (some (.ref a))) H) ∧ (b = false → wHds K Wo D r cls d σ H)
inductive HdsN (X : Cx) : List ExceptHandler → List Cls1 → Prop
  | nil : HdsN X [] []
  | plain {x : Str} {h : Cls1} {b0 : Stmt} {ss : List Stmt} {p1 p2 : Pos} {hds : List ExceptHandler} {l : List Cls1} (hc : Names X x h.c) (hi : h.i = none)
      (su : ∀ (a : Addr) (oe : Obj) (cls : Value) (d : Option Addr) (pn : List (Addr × Obj)), Zc cls d oe → (∃ vs, oe.data = .fields vs) → PSs (X.suite a ((a, oe) :: pn)) (b0 :: ss) (h.t a cls d)) (r : HdsN X hds l) :
      HdsN X (.ExceptHandler (some (.Name x p1)) none (b0 :: ss) p2 :: hds) (h :: l)
  | named {x n : Str} {i : Nat} {h : Cls1} {b0 : Stmt} {ss : List Stmt} {p1 p2 : Pos} {hds : List ExceptHandler} {l : List Cls1} (hc : Names X x h.c) (hi : h.i = some i) (hN : X.N[i]? = some n) (hl : X.env.kindOf n = some .local)
      (su : ∀ (a : Addr) (oe : Obj) (cls : Value) (d : Option Addr) (pn : List (Addr × Obj)), Zc cls d oe → (∃ vs, oe.data = .fields vs) → PSs (X.suite a ((a, oe) :: pn)) (b0 :: ss) (h.t a cls d)) (r : HdsN X hds l) :
      HdsN X (.ExceptHandler (some (.Name x p1)) (some n) (b0 :: ss) p2 :: hds) (h :: l)
section
variable {X : Cx} {body : List Stmt} {h0 : ExceptHandler} {hds : List ExceptHandler} {l : List Cls1} {pos : Pos} {tb : WX → TS} {Wo : WX}
/-- the state in which a clause is looked at -/
structure Caught (X : Cx) (pins : List (Addr × Obj)) (σ1 : L2.St) (H1 : Hp) (s1 : Shared) (a : Addr) (cls : Value) (d : Option Addr) (B : Heap) (sI : Shared) (hp : Heap) : Prop where
  J : Inv X pins σ1 H1 sI
theorem ps_try_hds (hst : X.stack = X.env :: X.outer) (hfl : X.env.frame = some X.env.locals) (hnd : X.N.Nodup) (tk : Takes X Wo)
    (hb : ∀ (W : WX) (pn : List (Addr × Obj)) (xe : Value → Shared → Prop), Takes (X.tr pn xe) W → PassesOwn (model X.prog X.w) X.A X.env xe → PSs (X.tr pn xe) body (tb W))
    (hh : HdsN X (h0 :: hds) l) : PS X (.Try body (h0 :: hds) [] [] pos) (fun D σ H => tb (wHds X.K Wo D l) D σ H) := by
  constructor
  intro pins s σ H D I hq
  have ok := I.ok
  have frs0 : X.A.frames = some (X.env :: X.outer) := by
    rw [ok.frames]; rw [hst]
  apply wpAny_Try_except
  have run := (hb (wHds X.K Wo D l) (X.pn ++ pins) (fun e sa => wpAny (model X.prog X.w) X.A (noteFrame e X.env)
    (fun _ sb => wpAny (model X.prog X.w) X.A (setFlight e none) (fun _ sc => wpAny (model X.prog X.w) X.A
      (handleBy e X.env (h0 :: hds)) (SP X pins D) X.xe sc) X.xe sb) X.xe sa) ?ctch PassesOwn.looking).run [] s σ H D (I.toTry _) hq
  case ctch =>
    intro u s2 xx
    obtain ⟨a, B, sI, pins2, σ2, H2, cls, d, rfl, J0, nb, up, sky, na, os, ag, w⟩ := xx
    have J : Inv X pins σ2 H2 sI := J0.ofTry ok
    have sky2 : Sky B (X.env :: X.outer) a (Zc cls d) X.env.locals s2.heap := by
      rw [← hst]; exact sky
    show wpAny (model X.prog X.w) X.A (noteFrame (.ref a) X.env) _ _ _
    refine Sky.land Zc.steady frs0 hfl sky2 ?_
    intro h3 fl3 up3
    have J3 : Inv X pins σ2 H2 { s2 with heap := h3 } :=
      J.landed nb fl3.1 (up.trans up3) os ag
    obtain ⟨oe3, vs3, he3, hz3, hd3⟩ := fl3.there
    have off : ∀ {h : Heap} {o : Obj} {vs : Array Value}, h.FunFrames B (X.env :: X.outer) → h.get? a = some o → o.data = .fields vs →
        a ∉ frs (X.env :: X.outer) := by
      intro h o vs ff e dd hm
      obtain ⟨_, o2, e2, hnf⟩ := ff.mem hm
      rw [e] at e2
      cases e2
      exact hnf _ dd
    have nfr := off fl3.2.2.1 he3 hd3
    have nL : a ≠ X.env.locals := by
      intro z
      refine nfr (List.mem_filterMap.mpr ⟨X.env, List.mem_cons_self, ?_⟩)
      rw [hfl, z]
    have nF : a ∉ X.fs := by
      intro hm
      obtain ⟨e, he, q⟩ := List.mem_filterMap.mp hm
      exact nfr (List.mem_filterMap.mpr ⟨e, List.mem_cons_of_mem _ he, q⟩) <;> skip
    have S3 := J3.suite he3 hd3 na nL nF
    have look : ∀ {x : Str} {c : Value} {b : Bool} {p1 : Pos} {Q : Bool → Shared → Prop} {E : Value → Shared → Prop}, Names X x c → True := fun _ => trivial
    have go : ∀ {hs2 : List ExceptHandler} {l2 : List Cls1}, HdsN X hs2 l2 → wHds X.K Wo D l2 cls d σ2 H2 →
        wpAny (model X.prog X.w) X.A (handleBy (.ref a) X.env hs2) (SP X pins D) X.xe { s2 with heap := h3 } := by
      intro hs2 l2 hk
      induction hk with
      | nil =>
        intro w
        apply wpAny_handleBy_nil
        obtain ⟨_, _, _, oe, vs, T, oT, t2, he, hz, hd, hT, hr⟩ := id fl3
        unfold PySem.passOn
        refine wpAny_bind (wpAny_field he hd hT ?_)
        rw [if_neg (by simp : ¬ ((Value.ref T == Value.none) = true))]
        have last : wpAny (model X.prog X.w) X.A (setFlight (.ref a) X.env.frame)
            (fun _ s4 => wpAny (model X.prog X.w) X.A (throw (.ref a) : Sem Flow) (SP X pins D) X.xe s4) X.xe { s2 with heap := h3 } := by
          rw [hfl]
          refine HandSPX.setFlight_upZ fl3 ?_
          intro h4 hh4 up4
          refine wpAny_throw (tk _ _ ?_)
          have hh5 : _ := hh4
          rw [← hst] at hh5
          exact ⟨a, B, sI, pins, σ2, H2, cls, d, rfl, J, nb, (up.trans up3).trans up4, .inr (.inr hh5), na, os, ag, w⟩
        first
          | exact wpAny_bind (wpAny_pure (wpAny_bind last))
          | exact wpAny_bind last
      | @plain x h b0 ss p1 p2 hds2 l2 hc hi su r ih =>
        intro w
        obtain ⟨b, hb1, yes, no⟩ := w
        refine wpAny_handleBy_cons (codeAny_handlers_test ?_) (fun q => by cases q)
        have LT : PySem.W.Looks (model X.prog X.w) h3 (typeOf (.ref a)) cls := by
          intro A Q E s k q
          exact wpAny_typeOf_ref (k _ _ he3) (by rw [hz3.1]; exact q)
        have LM := PySem.W.exm_one (M := model X.prog X.w) (J3.kIn) LT hb1
        have tst : ∀ {Q : Value → Shared → Prop} {E : Value → Shared → Prop}, Q h.c { s2 with heap := h3 } →
            wpAny (model X.prog X.w) (X.A.mark (some (.ref a))) (eval (.Name x p1) X.env) Q E { s2 with heap := h3 } := by
          intro Q E q
          obtain ⟨hg, hdb, hm | ⟨hm, hv, hn⟩⟩ := hc
          · exact ld_glob (X := X.suite a ((a, oe3) :: (X.pn ++ pins))) S3 hg hm q hdb
          · exact ld_blt (X := X.suite a ((a, oe3) :: (X.pn ++ pins))) S3 hg hm hv q hn hdb
        refine tst (LM.here ?_)
        cases b with
        | false =>
          show wpAny _ X.A (handleBy (.ref a) X.env hds2) _ _ _
          exact ih (no rfl)
        | true =>
          apply codeAny_handlers_suite
          refine HandSPX.lands_againZ fl3 ?_
          intro h4 fl4 up4
          have J4 : Inv X pins σ2 H2 { s2 with heap := h4 } :=
            J.landed nb fl4.1 ((up.trans up3).trans up4) os ag
          obtain ⟨oe4, vs4, he4, hz4, hd4⟩ := fl4.there
          have S4 := J4.suite he4 hd4 na nL nF
          have yes := yes rfl a na
          rw [hi] at yes
          refine wpAny_mono ((su a oe4 cls d (X.pn ++ pins) hz4 ⟨_, hd4⟩).run [] _ _ H2 _ S4 yes) ?_ (fun _ _ z => z.elim)
          intro f s6 hsp
          cases f with
          | next => obtain ⟨σ6, H6, S6, q6⟩ := hsp; exact ⟨_, _, S6.unsuite ok, q6⟩
          | brk => obtain ⟨σ6, H6, S6, q6⟩ := hsp; exact ⟨_, _, S6.unsuite ok, q6⟩
          | cont => obtain ⟨σ6, H6, S6, q6⟩ := hsp; exact ⟨_, _, S6.unsuite ok, q6⟩
          | ret u => obtain ⟨v6, σ6, H6, S6, r6, q6⟩ := hsp; exact ⟨_, _, _, S6.unsuite ok, r6, q6⟩
      | @named x n i h b0 ss p1 p2 hds2 l2 hc hi hN hl su r ih =>
        intro w
        obtain ⟨b, hb1, yes, no⟩ := w
        refine wpAny_handleBy_cons (codeAny_handlers_test ?_) (fun q => by cases q)
        have LT : PySem.W.Looks (model X.prog X.w) h3 (typeOf (.ref a)) cls := by
          intro A Q E s k q
          exact wpAny_typeOf_ref (k _ _ he3) (by rw [hz3.1]; exact q)
        have LM := PySem.W.exm_one (M := model X.prog X.w) (J3.kIn) LT hb1
        have tst : ∀ {Q : Value → Shared → Prop} {E : Value → Shared → Prop}, Q h.c { s2 with heap := h3 } →
            wpAny (model X.prog X.w) (X.A.mark (some (.ref a))) (eval (.Name x p1) X.env) Q E { s2 with heap := h3 } := by
          intro Q E q
          obtain ⟨hg, hdb, hm | ⟨hm, hv, hn⟩⟩ := hc
          · exact ld_glob (X := X.suite a ((a, oe3) :: (X.pn ++ pins))) S3 hg hm q hdb
          · exact ld_blt (X := X.suite a ((a, oe3) :: (X.pn ++ pins))) S3 hg hm hv q hn hdb
        refine tst (LM.here ?_)
        cases b with
        | false =>
          show wpAny _ X.A (handleBy (.ref a) X.env hds2) _ _ _
          exact ih (no rfl)
        | true =>
          apply codeAny_handlers_suite_as
          refine HandSPX.lands_againZ fl3 ?_
          intro h4 fl4 up4
          have J4 : Inv X pins σ2 H2 { s2 with heap := h4 } :=
            J.landed nb fl4.1 ((up.trans up3).trans up4) os ag
          obtain ⟨oe4, vs4, he4, hz4, hd4⟩ := fl4.there
          have S4 := J4.suite he4 hd4 na nL nF
          have yes := yes rfl a na
          rw [hi] at yes
          refine store_ok (X := X.suite a ((a, oe4) :: (X.pn ++ pins))) (v := .ref a) S4 hnd hN (.inl hl) rfl ?_ (.inr hl)
          intro s5 S5
          refine wpAny_mono ((su a oe4 cls d (X.pn ++ pins) hz4 ⟨_, hd4⟩).run [] s5 _ H2 _ S5 yes) ?_ (fun _ _ z => z.elim)
          intro f s6 hsp
          have fin : ∀ {σ6 : L2.St} {H6 : Hp} {Q : Shared → Prop}, Inv (X.suite a ((a, oe4) :: (X.pn ++ pins))) [] σ6 H6 s6 →
              (∀ s7, Inv X pins (σ6.set i none) H6 s7 → Q s7) →
              wpAny (model X.prog X.w) X.A (do bindName X.env n .none; unbindBehindTheSuite X.env n p2) (fun _ s7 => Q s7) X.xe s6 := by
            intro σ6 H6 Q S6 hq
            exact gone_ok (S6.unsuite ok) hnd hN hl hq
          cases f with
          | next => obtain ⟨σ6, H6, S6, q6⟩ := hsp; exact fin S6 fun s7 J7 => ⟨_, _, J7, q6⟩
          | brk => obtain ⟨σ6, H6, S6, q6⟩ := hsp; exact fin S6 fun s7 J7 => ⟨_, _, J7, q6⟩
          | cont => obtain ⟨σ6, H6, S6, q6⟩ := hsp; exact fin S6 fun s7 J7 => ⟨_, _, J7, q6⟩
          | ret u => obtain ⟨v6, σ6, H6, S6, r6, q6⟩ := hsp; exact fin S6 fun s7 J7 => ⟨_, _, _, J7, r6, q6⟩
    exact go hh w
  refine wpAny_mono run ?_ (fun e s1 he => he)
  intro f s1 hsp
  cases f with
  | next => obtain ⟨σ1, H1, J1, q⟩ := hsp; exact wpAny_execs_nil ⟨σ1, H1, J1.ofTry ok, q⟩
  | brk => obtain ⟨σ1, H1, J1, q⟩ := hsp; exact ⟨σ1, H1, J1.ofTry ok, q⟩
  | cont => obtain ⟨σ1, H1, J1, q⟩ := hsp; exact ⟨σ1, H1, J1.ofTry ok, q⟩
  | ret u => obtain ⟨v, σ1, H1, J1, r, q⟩ := hsp; exact ⟨v, σ1, H1, J1.ofTry ok, r, q⟩
end
end VL
/-! V3: what a text is matched with; expressions are served by the evaluator -/
namespace VL
open PySem PySem.Spec PyProof.Rows L2

/-! ### matching -/
structure Nms where
  fns : List Str
  consts : List Str
  excs : List Str
def okN (x : Str) : Bool := !(x == ("__debug__" : Str)) && !(x == ("__classdict__" : Str)) && !decide (x = ("__name__" : Str))
def glB (sc : Scope) (x : Str) : Bool := okN x && decide (sc.names.lookup x = some .globalImplicit)
def visB (sc : Scope) (x : Str) : Bool := okN x && (decide (sc.names.lookup x = some .local) || decide (sc.names.lookup x = some .cell) || decide (sc.names.lookup x = some .free))
def locB (sc : Scope) (x : Str) : Bool := decide (sc.names.lookup x = some .local) || decide (sc.names.lookup x = some .cell)
def nst : Expr → Bool
  | .Starred _ _ => false
  | _ => true
def litB : D → Const → Bool
  | .non, .none => true
  | .bl a, .bool b => a == b
  | .int a, .int b => decide (a = b)
  | .str a, .str b => decide (a = b)
  | _, _ => false
def bltName : Blt → Str
  | .len => "len" | .int => "int" | .list => "list" | .tuple => "tuple" | .max => "max" | .min => "min"
  | .abs => "abs" | .sum => "sum" | .sorted => "sorted" | .any => "any" | .all => "all" | .str => "str"
def bltNames : List Str := ["len", "int", "list", "tuple", "max", "min", "abs", "sum", "sorted", "any", "all", "str", "range", "reversed", "zip", "enumerate", "isinstance", "bool", "dict", "ValueError"]
def tyStr : Ty → Str
  | .int => "int" | .bool => "bool" | .str => "str" | .list => "list" | .tuple => "tuple" | .dict => "dict"
def pixB : Expr → Bool
  | .Slice _ _ _ _ => false
  | .Constant _ _ _ => true
  | .Name _ _ => true
  | .BinOp _ _ _ _ => true
  | .UnaryOp _ _ _ => true
  | .Call _ _ _ _ => true
  | .Subscript _ _ _ => true
  | .Attribute _ _ _ => true
  | _ => false
mutual
def mP (N : List Str) (sc : Scope) : Pt → Expr → Bool
  | .v i, e => match e with
    | .Name x _ => decide (N[i]? = some x) && locB sc x
    | _ => false
  | .t ps, e => match e with
    | .Tuple es _ _ => mPs N sc ps es
    | _ => false
def mPs (N : List Str) (sc : Scope) : List Pt → List Expr → Bool
  | [], es => es.isEmpty
  | p :: ps, es => match es with
    | e :: es => nst e && mP N sc p e && mPs N sc ps es
    | [] => false
end
mutual
def ptV : Pt → List Nat
  | .v i => [i]
  | .t ps => ptVs ps
def ptVs : List Pt → List Nat
  | [] => []
  | p :: ps => ptV p ++ ptVs ps
end
def mOp : BOp → Operator → Bool
  | .add, .Add | .sub, .Sub | .mul, .Mult | .fdiv, .FloorDiv | .mod, .Mod | .pow, .Pow | .band, .BitAnd => true
  | _, _ => false
def mCmp : COp → CmpOp → Bool
  | .eq, .Eq | .ne, .NotEq | .lt, .Lt | .le, .LtE | .gt, .Gt | .ge, .GtE | .isin, .In | .notin, .NotIn => true
  | _, _ => false
theorem mOp_eq {o : BOp} {p : Operator} (h : mOp o p = true) : p = pyOp o := by
  cases o <;> cases p <;> first | rfl | cases h
theorem mCmp_eq {o : COp} {p : CmpOp} (h : mCmp o p = true) : p = pyCmp o := by
  cases o <;> cases p <;> first | rfl | cases h
def isIsNone (ng : Bool) : CmpOp → Bool
  | .Is => !ng
  | .IsNot => ng
  | _ => false
mutual
def tstB : Ex → Bool
  | .ite _ _ _ => false
  | .and es => tstBs es && !es.isEmpty
  | .or es => tstBs es && !es.isEmpty
  | .not a => tstB a
  | .bor a => tstB a
  | _ => true
def tstBs : List Ex → Bool
  | [] => true
  | e :: es => tstB e && tstBs es
end
def tupE : Expr → Bool
  | .Tuple _ _ _ => true
  | _ => false
/-- what walks: its name, how many it takes -/
def itB (k : ItK) (x : Str) (n : Nat) (tg : Expr) : Bool :=
  match k with
  | .rng1 => decide (x = ("range" : Str)) && decide (n = 1)
  | .rng2 => decide (x = ("range" : Str)) && decide (n = 2)
  | .rng3 => decide (x = ("range" : Str)) && decide (n = 3)
  | .rev => decide (x = ("reversed" : Str)) && decide (n = 1)
  | .zip => decide (x = ("zip" : Str)) && decide (n = 2) && tupE tg
  | _ => false
def pixD : Expr → Bool
  | .Tuple _ _ _ => true
  | e => pixB e
def nameE : Expr → Bool
  | .Name _ _ => true
  | _ => false
/-- a comprehension with two walks -/
structure C2 where
  ee : Expr
  tg : Expr
  iter : Expr
  ifs : List Expr
  tg2 : Expr
  iter2 : Expr
  ifs2 : List Expr
  scope : Scope
def c2Of : Expr → Option C2
  | .ListComp ee [⟨tg, iter, ifs, 0⟩, ⟨tg2, iter2, ifs2, 0⟩] scope _ => some ⟨ee, tg, iter, ifs, tg2, iter2, ifs2, scope⟩
  | _ => none
/-- what a walk takes -/
def itArgs : ItK → Expr → List Expr
  | .seq, e => [e]
  | _, .Call _ es _ _ => es
  | _, _ => []
def itShp (sc : Scope) (k : ItK) (tg : Expr) : Expr → Bool
  | .Call (.Name x _) es kws _ => (match k with
    | .seq => true
    | .keys => false
    | k => glB sc x && kws.isEmpty && itB k x es.length tg)
  | .Set _ _ _ => false
  | .SetComp _ _ _ _ => false
  | .List _ _ => false
  | .Tuple _ _ _ => false
  | _ => (match k with
    | .seq => true
    | _ => false)
def c2B (N : List Str) (sc : Scope) (p : Pt) (k : ItK) (conds : List Ex) (own : List Nat) (p2 : Pt) (k2 : ItK) (conds2 : List Ex) (own2 : List Nat) (q : C2) : Bool :=
  blkC N sc q.scope (own.map fun i => (N.getD i "", i)) && mP N q.scope p q.tg && (ptV p).all (fun i => own.contains i) && own.all (fun i => decide (i < N.length)) && decide (conds.length ≤ 1) && tstBs conds &&
  mP N q.scope p2 q.tg2 && (ptV p2).all (fun i => own2.contains i) && own2.all (fun i => own.contains i) && decide (conds2.length ≤ 1) && tstBs conds2 && itShp sc k q.tg q.iter && itShp q.scope k2 q.tg2 q.iter2
/-- a name alone -/
def mVar (N : List Str) (sc : Scope) (i : Nat) (e : Expr) : Bool :=
  match e with
  | .Name x _ => decide (N[i]? = some x) && visB sc x
  | _ => false
mutual
def mE (N : List Str) (nm : Nms) : Ex → Scope → Expr → Bool
  | .var i, sc, e => match e with
    | .Name x _ => decide (N[i]? = some x) && visB sc x
    | _ => false
  | .lit d, _, e => match e with
    | .Constant c _ _ => litB d c
    | _ => false
  | .glob k, sc, e => match e with
    | .Name x _ => decide (nm.consts[k]? = some x) && glB sc x
    | _ => false
  | .tup xs, sc, e => match e with
    | .Tuple es _ _ => mEs N nm xs sc es && decide (xs.length ≤ 1000)
    | _ => false
  | .lst xs, sc, e => match e with
    | .List es _ => mEs N nm xs sc es && decide (xs.length ≤ 1000)
    | _ => false
  | .dict0, _, e => false
  | .bin o a b, sc, e => match e with
    | .BinOp ea op eb _ => mOp o op && mE N nm a sc ea && mE N nm b sc eb
    | _ => false
  | .neg a, sc, e => match e with
    | .UnaryOp op ea _ => (match op with | .USub => true | _ => false) && mE N nm a sc ea
    | _ => false
  | .cmp o a b, sc, e => match e with
    | .Compare ea ops es _ => (match ops, es with
      | [op], [eb] => mCmp o op && !behindInMarks op eb && mE N nm a sc ea && mE N nm b sc eb
      | _, _ => false)
    | _ => false
  | .chain o o2 a b c, sc, e => match e with
    | .Compare ea ops es _ => (match ops, es with
      | [op, op2], [eb, ec] => mCmp o op && mCmp o2 op2 && !lastMarks [op, op2] [eb, ec] && mE N nm a sc ea && mE N nm b sc eb && mE N nm c sc ec
      | _, _ => false)
    | _ => false
  | .isN a ng, sc, e => match e with
    | .Compare ea ops es _ => (match ops, es with
      | [op], [.Constant .none _ _] => isIsNone ng op && mE N nm a sc ea
      | _, _ => false)
    | _ => false
  | .and xs, sc, e => match e with
    | .BoolOp op es _ => (match op with | .And => true | _ => false) && mEs N nm xs sc es
    | _ => false
  | .or xs, sc, e => match e with
    | .BoolOp op es _ => (match op with | .Or => true | _ => false) && mEs N nm xs sc es
    | _ => false
  | .not a, sc, e => match e with
    | .UnaryOp op ea _ => (match op with | .Not => true | _ => false) && mE N nm a sc ea
    | _ => false
  | .ite c a b, sc, e => match e with
    | .IfExp ec ea eb _ => tstB c && mE N nm c sc ec && mE N nm a sc ea && mE N nm b sc eb
    | _ => false
  | .ix a b, sc, e => match e with
    | .Subscript ea eb _ => pixB eb && mE N nm a sc ea && mE N nm b sc eb
    | _ => false
  | .sl a lo hi, sc, e => match e with
    | .Subscript ea eb _ => (match eb with
      | .Slice l u st _ => st.isNone && mE N nm a sc ea && (match l with | some e => mE N nm lo sc e && (match lo with | .lit .non => false | _ => true) | none => (match lo with | .lit .non => true | _ => false)) && (match u with | some e => mE N nm hi sc e && (match hi with | .lit .non => false | _ => true) | none => (match hi with | .lit .non => true | _ => false))
      | _ => false)
    | _ => false
  | .call f xs, sc, e => match e with
    | .Call fn es kws _ => (match fn with
      | .Name x _ => decide (nm.fns[f]? = some x) && glB sc x && kws.isEmpty && mEs N nm xs sc es
      | _ => false)
    | _ => false
  | .blt b xs, sc, e => match e with
    | .Call fn es kws _ => (match fn with
      | .Name x _ => decide (x = bltName b) && glB sc x && kws.isEmpty && !es.isEmpty && mEs N nm xs sc es
      | _ => false)
    | _ => false
  | .mth _ _ _, _, _ => false
  | .isi a t, sc, e => match e with
    | .Call fn es kws _ => (match fn, es with
      | .Name x _, [ea, .Name y _] => decide (x = ("isinstance" : Str)) && glB sc x && decide (y = tyStr t) && glB sc y && kws.isEmpty && nst ea && mE N nm a sc ea
      | _, _ => false)
    | _ => false
  | .bor a, sc, e => mE N nm a sc e
  | .lrng xs, sc, e => match e with
    | .Call fn es kws _ => (match fn, es with
      | .Name x _, [.Call (.Name y _) es2 kws2 _] => decide (x = ("list" : Str)) && glB sc x && kws.isEmpty && decide (y = ("range" : Str)) && glB sc y && kws2.isEmpty && decide (xs.length = 1 ∨ xs.length = 2) && mEs N nm xs sc es2
      | _, _ => false)
    | _ => false
  | .dget d k o, sc, e => match e with
    | .Call (.Attribute ed m ap) es kws cp => decide (m = ("get" : Str)) && nameE ed && kws.isEmpty && (ap.endLine == cp.line) && mE N nm d sc ed && (match o, es with
      | none, [ek] => nst ek && mE N nm k sc ek
      | some f, [ek, ef] => nst ek && mE N nm k sc ek && nst ef && mE N nm f sc ef
      | _, _ => false)
    | _ => false
  | .dix d k, sc, e => match e with
    | .Subscript ed ek _ => pixD ek && mE N nm d sc ed && mE N nm k sc ek
    | _ => false
  | .din k d ng, sc, e => match e with
    | .Compare ek ops es _ => (match ops, es with
      | [op], [ed] => mCmp (if ng then .notin else .isin) op && !behindInMarks op ed && mE N nm k sc ek && mE N nm d sc ed
      | _, _ => false)
    | _ => false
  | .comp2 elt p k args conds own p2 k2 args2 conds2 own2, sc, e => match c2Of e with
    | some q => c2B N sc p k conds own p2 k2 conds2 own2 q && mEs N nm args sc (itArgs k q.iter) && mEs N nm args2 q.scope (itArgs k2 q.iter2) && mEs N nm conds q.scope q.ifs && mEs N nm conds2 q.scope q.ifs2 && mE N nm elt q.scope q.ee
    | none => false
  | .comp elt p k args conds own, sc, e => match e with
    | .ListComp ee gs scope _ => (match gs with
      | [⟨tg, iter, ifs, 0⟩] => blkC N sc scope (own.map fun i => (N.getD i "", i)) && mP N scope p tg && (ptV p).all (fun i => own.contains i) && own.all (fun i => decide (i < N.length)) &&
          decide (conds.length ≤ 1) && tstBs conds && mEs N nm conds scope ifs && mE N nm elt scope ee &&
          (match k with
            | .seq => (match args with | [a] => mE N nm a sc iter && (match iter with | .Set _ _ _ => false | .SetComp _ _ _ _ => false | .List _ _ => false | .Tuple _ _ _ => false | _ => true) | _ => false)
            | .keys => (match args with
              | [a] => (match a with
                | .var j => mVar N sc j iter
                | _ => false)
              | _ => false)
            | _ => (match iter with
              | .Call fn es kws _ => (match fn with
                | .Name x _ => glB sc x && kws.isEmpty && mEs N nm args sc es && itB k x es.length tg
                | _ => false)
              | _ => false))
      | _ => false)
    | _ => false
def mEs (N : List Str) (nm : Nms) : List Ex → Scope → List Expr → Bool
  | [], _, es => es.isEmpty
  | x :: xs, sc, es => match es with
    | e :: es => nst e && mE N nm x sc e && mEs N nm xs sc es
    | [] => false
end
mutual
/-- n: the error's name -/
def mH (nm : Nms) (sc : Scope) (n : Option Str) : Hx → Expr → Bool
  | .lit d, e => match e with
    | .Constant c _ _ => litB d c
    | _ => false
  | .tup hs, e => match e with
    | .Tuple es _ _ => mHs nm sc n hs es && decide (hs.length ≤ 1000)
    | _ => false
  | .isi c, e => match e with
    | .Call fn es kws _ => (match fn, es with
      | .Name x _, [.Name z _, .Name y _] => decide (x = ("isinstance" : Str)) && glB sc x && decide (n = some z) && visB sc z && decide (nm.excs[c]? = some y) && glB sc y && kws.isEmpty
      | _, _ => false)
    | _ => false
  | .isv, e => match e with
    | .Call fn es kws _ => (match fn, es with
      | .Name x _, [.Name z _, .Name y _] => decide (x = ("isinstance" : Str)) && glB sc x && decide (n = some z) && visB sc z && decide (y = ("ValueError" : Str)) && glB sc y && kws.isEmpty
      | _, _ => false)
    | _ => false
  | .and hs, e => match e with
    | .BoolOp op es _ => (match op with | .And => true | _ => false) && mHs nm sc n hs es
    | _ => false
  | .or hs, e => match e with
    | .BoolOp op es _ => (match op with | .Or => true | _ => false) && mHs nm sc n hs es
    | _ => false
  | .not h, e => match e with
    | .UnaryOp op ea _ => (match op with | .Not => true | _ => false) && mH nm sc n h ea
    | _ => false
def mHs (nm : Nms) (sc : Scope) (n : Option Str) : List Hx → List Expr → Bool
  | [], es => es.isEmpty
  | h :: hs, es => match es with
    | e :: es => nst e && mH nm sc n h e && mHs nm sc n hs es
    | [] => false
end
def mHd (N : List Str) (nm : Nms) (sc : Scope) : List Hd → List ExceptHandler → Bool
  | [], l => l.isEmpty
  | h :: hs, l => match l with
    | .ExceptHandler (some (.Name x _)) o ss _ :: r => decide (nm.excs[h.c]? = some x) && glB sc x && (match o, h.i with
        | none, none => true
        | some n, some i => decide (N[i]? = some n) && decide (sc.names.lookup n = some .local)
        | _, _ => false) && (match ss with
        | [.Return (some e) _] => mH nm sc o h.b e
        | _ => false) && mHd N nm sc hs r
    | _ => false
def mO (N : List Str) (nm : Nms) (x : Ex) (sc : Scope) (o : Option Expr) : Bool :=
  match o with
  | some e => mE N nm x sc e && (match x with | .lit .non => false | _ => true)
  | none => (match x with | .lit .non => true | _ => false)
end VL
/-! V4: expressions are served by the evaluator -/
namespace VL
open PySem PySem.Spec PyProof.Rows L2

/-! ### what a def promises, what stands around it -/
def spF (K : PySem.W.Frag) (cl : Nat → Value) (P : Prog) (n f : Nat) : Sp := fun vs H Q E => ∃ ι F M ds, FSub F H ∧ MemRep K ι F M H ∧ Reps K ι F vs ds ∧
  Res K cl (fun c d _ H' => E c d H') ι F [] H (callN P n f ds M) fun d _ ι' F' H' => ∀ v T, DRep K ι' F' H' d.1 v d.2 T → New ι' F' H H' T → Q v H'
structure Fx (P : Prog) (nm : Nms) (cl : Nat → Value) (n : Nat) (prog : Program) (w : World) (K : PySem.W.Frag) (mg : Str → Option Value) (base : Heap) : Prop where
  fns : ∀ (f : Nat) x, nm.fns[f]? = some x → ∃ a fd ps, mg x = some (.ref a) ∧ PySem.W.keepIn K (.ref a) = true ∧ Binds K fd ps [] ∧ FnOk prog w K mg base (L2.CX prog w) n a fd ps (spF K cl P n f)
  consts : ∀ (k : Nat) x d, nm.consts[k]? = some x → P.consts[k]? = some d → ∃ u v, mg x = some u ∧ RelV v u ∧ Rep K [] (fun _ => none) v d
  blt : ∀ x ∈ bltNames, mg x = none
  excs : ∀ (k : Nat) x, nm.excs[k]? = some x → ∃ C, cl k = .ref C ∧ mg x = some (.ref C) ∧ PySem.W.keepIn K (.ref C) = true ∧
    PySem.W.excIn K C [.type "ValueError", .type "Exception", .type "BaseException", .type "object"] "ValueError.__new__" = true ∧
    PySem.W.subIn K (.ref C) (.type "BaseException") = some true ∧ PySem.W.typeIn K (.ref C) = some (.type "type")
  subs : ∀ (k c : Nat) b, P.sub k c = some b → ∃ D C, cl k = .ref D ∧ cl c = .ref C ∧ L2.ExcC K D ∧ PySem.W.exmOne K (.ref D) (.ref C) = some b ∧ PySem.W.kitOne K (.ref D) (.ref C) = some b ∧
    PySem.W.kitOne K (.ref D) (.type "ValueError") = some true
structure XW (P : Prog) (nm : Nms) (cl : Nat → Value) (n : Nat) (X : Cx) (sc : Scope) (W : WXX) : Prop where
  tk : Takes X W
  calm : X.calm = true
  nd : X.N.Nodup
  room : Room n X.A
  names : ∀ x k, sc.names.lookup x = some k → k ≠ .free → X.env.scope.names.lookup x = some k
  free : ∀ x, sc.names.lookup x = some .free → X.env.scope.names.lookup x = some .cell ∨ X.env.scope.names.lookup x = some .free
  fnc : ∀ x, sc.names.lookup x = some .cell → X.fn x = true
  fx : Fx P nm cl n X.prog X.w X.K X.mg X.base
section
variable {P : Prog} {nm : Nms} {cl : Nat → Value} {n : Nat} {X : Cx} {sc : Scope} {W : WXX}
theorem XW.hu (w : XW P nm cl n X sc W) : X.A.units + 64 < cLine := w.room.units
theorem okN_d {x : Str} (h : okN x = true) : (x == ("__debug__" : Str)) = false ∧ (x == ("__classdict__" : Str)) = false ∧ x ≠ "__name__" := by
  unfold okN at h
  simp only [Bool.and_eq_true, Bool.not_eq_true', decide_eq_false_iff_not] at h
  exact ⟨h.1.1, h.1.2, h.2⟩
theorem XW.gl (w : XW P nm cl n X sc W) {x : Str} (h : glB sc x = true) : Gl X x ∧ okN x = true := by
  unfold glB at h
  simp only [Bool.and_eq_true, decide_eq_true_eq] at h
  exact ⟨w.names x _ h.2 (by decide), h.1⟩
theorem XW.vis (w : XW P nm cl n X sc W) {x : Str} (h : visB sc x = true) : Vis X.env.scope x ∧ okN x = true := by
  unfold visB at h
  simp only [Bool.and_eq_true, Bool.or_eq_true, decide_eq_true_eq] at h
  refine ⟨?_, h.1⟩
  rcases h.2 with (h | h) | h
  · exact .inl (w.names x _ h (by decide))
  · exact .inr (.inl (w.names x _ h (by decide)))
  · rcases w.free x h with z | z
    · exact .inr (.inl z)
    · exact .inr (.inr z)
theorem XW.loc (w : XW P nm cl n X sc W) {x : Str} (h : locB sc x = true) : Loc X.env.scope x ∧ (X.fn x = true ∨ X.env.scope.names.lookup x = some .local) := by
  unfold locB at h
  simp only [Bool.or_eq_true, decide_eq_true_eq] at h
  rcases h with h | h
  · exact ⟨.inl (w.names x _ h (by decide)), .inr (w.names x _ h (by decide))⟩
  · exact ⟨.inr (w.names x _ h (by decide)), .inl (w.fnc x h)⟩
theorem s_of {α : Type} {ι : List Addr} {F : Hp} {σ : L2.St} {H : Hp} {K : PySem.W.Frag} {o : Option α} {M : Mem} {Pd : α → Mem → List Addr → Hp → Hp → Prop} (h : Res K cl W ι F σ H (R.of o M) Pd) (f : FSub F H) (m : MemRep K ι F M H) :
    ∃ d, o = some d ∧ (∀ ι' F' H', Stp ι F H ι' F' H' → FSub F' H' → MemRep K ι' F' M H' → Pd d M ι' F' H') := by
  cases o with
  | none => exact h.elim
  | some d => exact ⟨d, rfl, h⟩
theorem s_toR {e : Expr} {re : Sl → Mem → R D} (h : PE X e (tE X.K cl W re)) : PE X e (tRd X.K cl W re) := PE.weak h fun σ H Q ⟨ι, F, ρ, M, r, z⟩ =>
  ⟨ι, F, ρ, M, r, z.imp fun d M1 ι1 F1 H1 s1 f1 m1 q v hv => q v (.inl hv)⟩
/-- an operation of two -/
theorem s_op {f : D → D → Option D} {a b : Expr} {ra rb : Sl → Mem → R D} {e : Expr}
    (h : ∀ ta tb, PE X a ta → PE X b tb → PE X e (tOp (rOp X.K f) ta tb)) (ha : PE X a (tRd X.K cl W ra)) (hb : PE X b (tRd X.K cl W rb)) :
    PE X e (tE X.K cl W fun ρ M => (ra ρ M).bind fun x M1 => (rb ρ M1).bind fun y M2 => R.of (f x y) M2) := by
  refine PE.weak (h _ _ ha hb) fun σ H Q q => ?_
  obtain ⟨ι, F, ρ, M, r, q⟩ := q
  refine ⟨ι, F, ρ, M, r, q.bind.imp fun x M1 ι1 F1 H1 s1 f1 m1 q1 v hv => ?_⟩
  refine ⟨ι1, F1, ρ, M1, r.step s1 f1 m1, q1.bind.imp fun y M2 ι2 F2 H2 s2 f2 m2 q2 w hw => ?_⟩
  obtain ⟨d, e, q3⟩ := s_of q2 f2 m2
  exact ⟨ι2, F2, M2, x, y, d, f2, m2, s2.repR hv, hw, e, fun F' H' v s f m r => q3 _ _ _ s f m v r⟩
theorem star_ok {e : Expr} {es : List Expr} {env : Env} (h : nst e = true) : starEach (e :: es) env = (false, eval e env) :: starEach es env := by
  cases e <;> first | rfl | cases h
theorem star_any {P : Prog} {nm : Nms} {N : List Str} {sc : Scope} {env : Env} {pos : Pos} : ∀ {xs : List Ex} {es : List Expr}, mEs N nm xs sc es = true → (backTo pos (starEach es env)).any (·.1) = false ∧ (starEach es env).any (·.1) = false
  | [], [], _ => ⟨by rfl, by rfl⟩
  | [], _ :: _, h => by simp [mEs] at h
  | _ :: _, [], h => by simp [mEs] at h
  | x :: xs, e :: es, h => by
    simp only [mEs, Bool.and_eq_true] at h
    have ih := star_any (P := P) (pos := pos) (env := env) h.2
    rw [star_ok h.1.1]
    refine ⟨?_, by simpa using ih.2⟩
    have e1 : (backTo pos ((false, eval e env) :: starEach es env)).any (·.1) = (((false, eval e env) :: starEach es env)).any (·.1) := by
      unfold backTo
      rw [List.any_map]
      rfl
    rw [e1]; simpa using ih.2
theorem s_pa_nil : PA X [] (tA X.K cl W fun ρ M => .ok [] M) := by
  refine PA.weak pa_nil fun σ H Q h => ?_
  obtain ⟨ι, F, ρ, M, r, h⟩ := h
  exact Res.of_ok h r.sub r.mem [] .nil
theorem s_pa_cons {e : Expr} {es : List Expr} {c : Cfg} {re : Sl → Mem → R D} {rs : Sl → Mem → R (List D)} (hn : nst e = true) (he : PE X e (tE X.K cl W re)) (hs : PA X es (tA X.K cl W rs)) :
    PA X (e :: es) (tA X.K cl W fun ρ M => (re ρ M).bind fun d M1 => (rs ρ M1).bind fun ds M2 => .ok (d :: ds) M2) := by
  refine PA.weak (pa_cons he hs (star_ok hn)) fun σ H Q h => ?_
  obtain ⟨ι, F, ρ, M, r, q⟩ := h
  refine ⟨ι, F, ρ, M, r, q.bind.imp fun d M1 ι1 F1 H1 s1 f1 m1 q1 v hv => ?_⟩
  refine ⟨ι1, F1, ρ, M1, r.step s1 f1 m1, q1.bind.imp fun ds M2 ι2 F2 H2 s2 f2 m2 q2 vs hvs => ?_⟩
  exact Res.of_ok q2 f2 m2 (v :: vs) (.cons (s2.rep hv) hvs)
theorem s_par_nil : PA X [] (tAR X.K cl W fun ρ M => .ok [] M) := by
  refine PA.weak pa_nil fun σ H Q h => ?_
  obtain ⟨ι, F, ρ, M, r, h⟩ := h
  exact Res.of_ok h r.sub r.mem [] .nil
theorem s_par_cons {e : Expr} {es : List Expr} {c : Cfg} {re : Sl → Mem → R D} {rs : Sl → Mem → R (List D)} (hn : nst e = true) (he : PE X e (tRd X.K cl W re)) (hs : PA X es (tAR X.K cl W rs)) :
    PA X (e :: es) (tAR X.K cl W fun ρ M => (re ρ M).bind fun d M1 => (rs ρ M1).bind fun ds M2 => .ok (d :: ds) M2) := by
  refine PA.weak (pa_cons he hs (star_ok hn)) fun σ H Q h => ?_
  obtain ⟨ι, F, ρ, M, r, q⟩ := h
  refine ⟨ι, F, ρ, M, r, q.bind.imp fun d M1 ι1 F1 H1 s1 f1 m1 q1 v hv => ?_⟩
  refine ⟨ι1, F1, ρ, M1, r.step s1 f1 m1, q1.bind.imp fun ds M2 ι2 F2 H2 s2 f2 m2 q2 vs hvs => ?_⟩
  exact Res.of_ok q2 f2 m2 (v :: vs) (.cons (s2.repR hv) hvs)
theorem s_lit {d : D} {k : Const} {j pos} {c : Cfg} (h : litB d k = true) : PE X (.Constant k j pos) (tE X.K cl W (evE c (.lit d))) := by
  have fin : ∀ {v : V} {σ : L2.St} {H : Hp} {Q : VK}, (∀ ι F, Rep X.K ι F v d) → tE X.K cl W (evE c (.lit d)) σ H Q → Q v H := fun hv ⟨ι, F, ρ, M, r, q⟩ => by
    simp only [evE] at q
    exact Res.of_ok q r.sub r.mem _ (hv _ _)
  unfold litB at h
  split at h
  · exact PE.weak pe_non fun σ H Q q => fin (fun _ _ => .non) q
  · rename_i a b
    have e : a = b := by simpa using h
    subst e
    exact PE.weak pe_bl fun σ H Q q => fin (fun _ _ => .bl _) q
  · have e := of_decide_eq_true h
    subst e
    exact PE.weak pe_int fun σ H Q q => fin (fun _ _ => .int _) q
  · have e := of_decide_eq_true h
    subst e
    exact PE.weak pe_str fun σ H Q q => fin (fun _ _ => .str _) q
  · cases h
theorem s_var (w : XW P nm cl n X sc W) {i : Nat} {x : Str} {pos : Pos} (h1 : X.N[i]? = some x) (h2 : visB sc x = true) : PE X (.Name x pos) (tVar i) := by
  obtain ⟨v, o⟩ := w.vis h2
  obtain ⟨a, b, _⟩ := okN_d o
  exact pe_var h1 v a b
theorem s_varE {c : Cfg} {i : Nat} {e : Expr} (h : PE X e (tVar i)) : PE X e (tE X.K cl W (evE c (.var i))) := by
  refine PE.weak h fun σ H Q q => ?_
  obtain ⟨ι, F, ρ, M, r, q⟩ := q
  simp only [evE] at q
  split at q
  · rename_i d e
    obtain ⟨v, e1, hr⟩ := r.fz i d e
    exact ⟨v, e1, Res.of_ok q r.sub r.mem v hr⟩
  · exact q.elim
theorem s_glob (w : XW P nm cl n X sc W) {k : Nat} {x : Str} {pos : Pos} (h1 : nm.consts[k]? = some x) (h2 : glB sc x = true) : PE X (.Name x pos) (tE X.K cl W (evE (cfgN P n) (.glob k))) := by
  obtain ⟨g, o⟩ := w.gl h2
  obtain ⟨a, b, _⟩ := okN_d o
  cases e : P.consts[k]? with
  | none =>
    refine ⟨fun pins s σ H Q I q => ?_⟩
    obtain ⟨ι, F, ρ, M, r, q⟩ := q
    simp only [evE, cfgN, e] at q
    exact q.elim
  | some d =>
    obtain ⟨u, v, e1, r1, r2⟩ := w.fx.consts k x d h1 e
    refine PE.weak (pe_glob g e1 r1 a) fun σ H Q q => ?_
    obtain ⟨ι, F, ρ, M, r, q⟩ := q
    simp only [evE, cfgN, e, R.of_some] at q
    exact Res.of_ok q r.sub r.mem v (r2.mono (fun n a h => by simp at h) (fun a u h => by cases h))
theorem small1000' {n : Nat} (h : n ≤ 1000) : n ≤ sizeLine := by rw [sizeLine_eq]; omega
theorem evEs_len {c : Cfg} {ρ : Sl} : ∀ {xs : List Ex} {M M' : Mem} {ds : List D}, evEs c xs ρ M = .ok ds M' → ds.length = xs.length
  | [], M, M', ds, h => by simp only [evEs] at h; cases h; rfl
  | x :: xs, M, M', ds, h => by
    simp only [evEs] at h
    cases e1 : evE c x ρ M with
    | ok d M1 =>
      rw [e1, R.bind_ok] at h
      cases e2 : evEs c xs ρ M1 with
      | ok r M2 => rw [e2, R.bind_ok] at h; cases h; simp [evEs_len e2]
      | ex _ _ => rw [e2] at h; cases h
      | st => rw [e2] at h; cases h
    | ex _ _ => rw [e1] at h; cases h
    | st => rw [e1] at h; cases h
theorem Res.imp' {α : Type} {K : PySem.W.Frag} {ι : List Addr} {F H : Hp} {σ : L2.St} {r : R α} {Pd Pd' : α → Mem → List Addr → Hp → Hp → Prop} (h : Res K cl W ι F σ H r Pd)
    (q : ∀ d M', r = .ok d M' → ∀ ι' F' H', Stp ι F H ι' F' H' → FSub F' H' → MemRep K ι' F' M' H' → Pd d M' ι' F' H' → Pd' d M' ι' F' H') : Res K cl W ι F σ H r Pd' := by
  cases r with
  | ok d M1 => intro ι1 F1 H1 s1 f1 m1; exact q _ _ rfl _ _ _ s1 f1 m1 (h ι1 F1 H1 s1 f1 m1)
  | ex c M1 => exact h
  | st => exact h
theorem s_tup {xs : List Ex} {es : List Expr} {x1 : Nat} {pos : Pos} {c : Cfg} (h : PA X es (tA X.K cl W (evEs c xs))) (hl : xs.length ≤ 1000) : PE X (.Tuple es x1 pos) (tE X.K cl W (evE c (.tup xs))) := by
  refine PE.weak (pe_tup h) fun σ H Q q => ?_
  obtain ⟨ι, F, ρ, M, r, q⟩ := q
  simp only [evE] at q
  refine ⟨ι, F, ρ, M, r, q.bind.imp' fun ds M1 el ι1 F1 H1 s1 f1 m1 q1 vs hvs => ⟨?_, fun p hp => ?_⟩⟩
  · rw [hvs.length, evEs_len el]; exact small1000' hl
  · obtain ⟨s2, f2, m2⟩ := new_ok (o := .tup vs) f1 m1 hp
    exact q1 _ _ _ s2 f2 m2 _ (rep_new_tup f1 hp hvs)
theorem s_lst {xs : List Ex} {es : List Expr} {pos : Pos} {c : Cfg} (h : PA X es (tA X.K cl W (evEs c xs))) (hl : xs.length ≤ 1000) : PE X (.List es pos) (tE X.K cl W (evE c (.lst xs))) := by
  refine PE.weak (pe_lst h) fun σ H Q q => ?_
  obtain ⟨ι, F, ρ, M, r, q⟩ := q
  simp only [evE] at q
  refine ⟨ι, F, ρ, M, r, q.bind.imp' fun ds M1 el ι1 F1 H1 s1 f1 m1 q1 vs hvs => ⟨?_, fun p hp => ?_⟩⟩
  · rw [hvs.length, evEs_len el]; exact small1000' hl
  · obtain ⟨s2, f2, m2⟩ := new_ok (o := .lst vs) f1 m1 hp
    exact q1 _ _ _ s2 f2 m2 _ (rep_new_lst f1 hp hvs)
theorem s_neg {a : Expr} {x : Ex} {pos : Pos} {c : Cfg} (h : PE X a (tE X.K cl W (evE c x))) : PE X (.UnaryOp .USub a pos) (tE X.K cl W (evE c (.neg x))) := by
  refine PE.weak (pe_un un_neg h) fun σ H Q q => ?_
  obtain ⟨ι, F, ρ, M, r, q⟩ := q
  simp only [evE] at q
  refine ⟨ι, F, ρ, M, r, q.bind.imp fun d M1 ι1 F1 H1 s1 f1 m1 q1 v hv => ?_⟩
  split at q1
  · exact ⟨_, hv.getInt, Res.of_ok q1 f1 m1 _ (.int _)⟩
  · exact q1.elim
theorem isN_imp {x : Ex} {c : Cfg} {ng : Bool} {σ : L2.St} {H : Hp} {Q : VK} (z : tE X.K cl W (evE c (.isN x ng)) σ H Q) : (fun σ H Q => tE X.K cl W (evE c x) σ H fun y H1 => Q (.bl (if ng = true then !decide (y = V.non) else decide (y = V.non))) H1 : TE) σ H Q := by
  have nn : ∀ {ι : List Addr} {F : Hp} {v : V} {d : D}, Rep X.K ι F v d → decide (v = .non) = (match d with | .non => true | _ => false) := fun {ι F v d} h => by
    cases h <;> rfl
  obtain ⟨ι, F, ρ, M, r, q⟩ := z
  simp only [evE] at q
  refine ⟨ι, F, ρ, M, r, q.bind.imp fun d M1 ι1 F1 H1 s1 f1 m1 q1 v hv => ?_⟩
  show Q (V.bl (if ng = true then !decide (v = V.non) else decide (v = V.non))) H1
  rw [nn hv]
  have q2 := Res.of_ok q1 f1 m1
  cases ng <;> cases d <;> exact q2 _ (.bl _)
theorem s_isN {a : Expr} {x : Ex} {pos pos' : Pos} {j : Nat} {c : Cfg} {op : CmpOp} {ng : Bool} (ho : isIsNone ng op = true) (h : PE X a (tE X.K cl W (evE c x))) : PE X (.Compare a [op] [.Constant .none j pos'] pos) (tE X.K cl W (evE c (.isN x ng))) := by
  cases op <;> try (cases ho; done)
  · cases ng <;> try (cases ho; done)
    exact PE.weak (pe_cmp (pc_isN h)) fun σ H Q z => isN_imp z
  · cases ng <;> try (cases ho; done)
    exact PE.weak (pe_cmp (pc_notN h)) fun σ H Q z => isN_imp z
theorem s_tisN {a : Expr} {x : Ex} {pos pos' : Pos} {j : Nat} {c : Cfg} {op : CmpOp} {ng : Bool} (ho : isIsNone ng op = true) (h : PE X a (tE X.K cl W (evE c x))) :
    ∃ t, PT X (.Compare a [op] [.Constant .none j pos'] pos) (tTest t) ∧ ∀ σ H Q, tE X.K cl W (evE c (.isN x ng)) σ H Q → t σ H Q := by
  cases op <;> try (cases ho; done)
  · cases ng <;> try (cases ho; done)
    exact ⟨_, pt_cmp (pc_isN h), fun σ H Q z => isN_imp z⟩
  · cases ng <;> try (cases ho; done)
    exact ⟨_, pt_cmp (pc_notN h), fun σ H Q z => isN_imp z⟩
theorem Res.later {α : Type} {K : PySem.W.Frag} {ι ι1 : List Addr} {F H F1 H1 : Hp} {σ : L2.St} {r : R α} {Pd : α → Mem → List Addr → Hp → Hp → Prop} (h : Res K cl W ι F σ H r Pd) (s : Stp ι F H ι1 F1 H1) : Res K cl W ι1 F1 σ H1 r Pd := by
  cases r with
  | ok d M1 => intro ι2 F2 H2 s2 f2 m2; exact h _ _ _ (s.trans s2) f2 m2
  | ex c M1 => intro ι2 F2 H2 s2 f2 m2; exact h _ _ _ (s.trans s2) f2 m2
  | st => exact h
/-- truth -/
theorem tru_of {ι : List Addr} {F H : Hp} {K : PySem.W.Frag} {v : V} {d : D} {b : Bool} (f : FSub F H) (h : RepR K ι F H v d) (e : truth d = some b) : TruV K v H b := by
  cases d with
  | non => rw [h.non]; simp only [truth, Option.some.injEq] at e; exact e.symm
  | bl x => rw [h.bl]; simp only [truth, Option.some.injEq] at e; exact e.symm
  | int x => rw [h.int]; simp only [truth, Option.some.injEq] at e; exact e.symm
  | str x =>
    rw [h.str]
    simp only [truth] at e
    split at e
    · rename_i hl; simp only [Option.some.injEq] at e; exact ⟨hl, e.symm⟩
    · cases e
  | tup ds =>
    simp only [truth, Option.some.injEq] at e
    obtain ⟨p, vs, rfl, a1, _, r1⟩ := h.tup f
    refine .inr (.inl ⟨vs, a1, ?_⟩)
    rw [← e]; cases r1 <;> rfl
  | lst ds =>
    simp only [truth, Option.some.injEq] at e
    obtain ⟨p, vs, rfl, a1, r1⟩ := h.lst f
    refine .inl ⟨vs, a1, ?_⟩
    rw [← e]; cases r1 <;> rfl
  | ktup _ => cases e
  | dic _ => simp [truth] at e
  | ins _ _ => simp [truth] at e
  | ref _ => simp [truth] at e
theorem s_not {a : Expr} {pos : Pos} {ra : Sl → Mem → R D} (h : PE X a (tRd X.K cl W ra)) :
    PE X (.UnaryOp .Not a pos) (tE X.K cl W fun ρ M => (ra ρ M).bind fun x M1 => (R.of (truth x) M1).bind fun b M2 => .ok (.bl (!b)) M2) := by
  refine PE.weak (pe_notT h) fun σ H Q q => ?_
  obtain ⟨ι, F, ρ, M, r, q⟩ := q
  refine ⟨ι, F, ρ, M, r, q.bind.imp fun d M1 ι1 F1 H1 s1 f1 m1 q1 v hv => ?_⟩
  cases e : truth d with
  | none => rw [e] at q1; exact q1.elim
  | some b =>
    rw [e] at q1
    exact ⟨b, tru_of f1 hv e, Res.of_ok q1 f1 m1 _ (.bl _)⟩
theorem s_ite {q a b : Expr} {pos : Pos} {ra rb : Sl → Mem → R D} {rt : Sl → Mem → R Bool} (hq : PT X q (tT X.K cl W rt)) (ha : PE X a (tE X.K cl W ra)) (hb : PE X b (tE X.K cl W rb)) :
    PE X (.IfExp q a b pos) (tE X.K cl W fun ρ M => (rt ρ M).bind fun t M2 => if t = true then ra ρ M2 else rb ρ M2) := by
  refine PE.weak (pe_ifExp hq ha hb) fun σ H Q z => ?_
  obtain ⟨ι, F, ρ, M, r, z⟩ := z
  refine ⟨ι, F, ρ, M, r, z.bind.imp fun t M1 ι1 F1 H1 s1 f1 m1 q1 => ?_⟩
  cases t with
  | true => exact ⟨ι1, F1, ρ, M1, r.step s1 f1 m1, q1⟩
  | false => exact ⟨ι1, F1, ρ, M1, r.step s1 f1 m1, q1⟩
theorem chain_imp {o o2 : COp} {ra rb rd : Sl → Mem → R D} {σ : L2.St} {H : Hp} {Q : VK}
    (z : tE X.K cl W (fun ρ M => (ra ρ M).bind fun x M1 => (rb ρ M1).bind fun y M2 => (R.of (cmpD o x y) M2).bind fun t M3 => match t with
      | .bl true => (rd ρ M3).bind fun z M4 => R.of (cmpD o2 y z) M4
      | .bl false => .ok (.bl false) M3
      | _ => .st) σ H Q) : tChain (rOp X.K (cmpD o)) (rOp X.K (cmpD o2)) (tE X.K cl W ra) (tE X.K cl W rb) (tE X.K cl W rd) σ H Q := by
  obtain ⟨ι, F, ρ, M, r, z⟩ := z
  refine ⟨ι, F, ρ, M, r, z.bind.imp fun x M1 ι1 F1 H1 s1 f1 m1 q1 v hv => ?_⟩
  refine ⟨ι1, F1, ρ, M1, r.step s1 f1 m1, q1.bind.imp fun y M2 ι2 F2 H2 s2 f2 m2 q2 u hu => ?_⟩
  cases e : cmpD o x y with
  | none => rw [e] at q2; exact q2.elim
  | some t =>
    rw [e, R.of_some, R.bind_ok] at q2
    refine ⟨ι2, F2, M2, x, y, t, f2, m2, .inl (s2.rep hv), .inl hu, e, fun F3 H3 k s3 f3 m3 hk => ?_⟩
    split at q2
    · cases hk
      refine ⟨true, rfl, ?_⟩
      rw [if_pos rfl]
      refine ⟨ι2, F3, ρ, M2, ((r.step s1 f1 m1).step s2 f2 m2).step s3 f3 m3, (q2.later s3).bind.imp fun z M4 ι4 F4 H4 s4 f4 m4 q4 u' hu' => ?_⟩
      obtain ⟨d', e', q5⟩ := s_of q4 f4 m4
      exact ⟨ι4, F4, M4, y, z, d', f4, m4, .inl (s4.rep (s3.rep hu)), .inl hu', e', fun F' H' v s f m r => q5 _ _ _ s f m v r⟩
    · cases hk
      exact ⟨false, rfl, q2 _ _ _ s3 f3 m3 _ (.bl _)⟩
    · exact q2.elim
theorem s_chain {o o2 : COp} {a b d : Expr} {pos : Pos} {ra rb rd : Sl → Mem → R D} (w : XW P nm cl n X sc W) (hm : lastMarks [pyCmp o, pyCmp o2] [b, d] = false)
    (ha : PE X a (tE X.K cl W ra)) (hb : PE X b (tE X.K cl W rb)) (hd : PE X d (tE X.K cl W rd)) :
    PE X (.Compare a [pyCmp o, pyCmp o2] [b, d] pos) (tE X.K cl W fun ρ M => (ra ρ M).bind fun x M1 => (rb ρ M1).bind fun y M2 => (R.of (cmpD o x y) M2).bind fun t M3 => match t with
      | .bl true => (rd ρ M3).bind fun z M4 => R.of (cmpD o2 y z) M4
      | .bl false => .ok (.bl false) M3
      | _ => .st) := PE.weak (pe_chain (op_cmp w.hu o) (op_cmp w.hu o2) ha hb hd hm) fun σ H Q z => chain_imp z
/-- and, or: values -/
theorem s_one {op : BoolOp} {a : Expr} {x : Ex} {pos : Pos} {c : Cfg} (h : PE X a (tE X.K cl W (evE c x))) : PE X (.BoolOp op [a] pos) (tE X.K cl W (evE c x)) := pe_one h
theorem s_and {a b : Expr} {rest : List Expr} {pos : Pos} {ra rr : Sl → Mem → R D} (ha : PE X a (tE X.K cl W ra)) (hb : PE X (.BoolOp .And (b :: rest) pos) (tE X.K cl W rr)) :
    PE X (.BoolOp .And (a :: b :: rest) pos) (tE X.K cl W fun ρ M => (ra ρ M).bind fun d M1 => (R.of (truth d) M1).bind fun t M2 => if t = true then rr ρ M2 else .ok d M2) := by
  refine PE.weak (pe_andT ha hb) fun σ H Q z => ?_
  obtain ⟨ι, F, ρ, M, r, z⟩ := z
  refine ⟨ι, F, ρ, M, r, z.bind.imp fun d M1 ι1 F1 H1 s1 f1 m1 q1 v hv => ?_⟩
  cases e : truth d with
  | none => rw [e] at q1; exact q1.elim
  | some b =>
    rw [e, R.of_some, R.bind_ok] at q1
    refine ⟨b, tru_of f1 (.inl hv) e, ?_⟩
    cases b with
    | true => rw [if_pos rfl] at q1 ⊢; exact ⟨ι1, F1, ρ, M1, r.step s1 f1 m1, q1⟩
    | false => rw [if_neg (by decide)] at q1 ⊢; exact Res.of_ok q1 f1 m1 v hv
theorem s_or {a b : Expr} {rest : List Expr} {pos : Pos} {ra rr : Sl → Mem → R D} (ha : PE X a (tE X.K cl W ra)) (hb : PE X (.BoolOp .Or (b :: rest) pos) (tE X.K cl W rr)) :
    PE X (.BoolOp .Or (a :: b :: rest) pos) (tE X.K cl W fun ρ M => (ra ρ M).bind fun d M1 => (R.of (truth d) M1).bind fun t M2 => if t = true then .ok d M2 else rr ρ M2) := by
  refine PE.weak (pe_orT ha hb) fun σ H Q z => ?_
  obtain ⟨ι, F, ρ, M, r, z⟩ := z
  refine ⟨ι, F, ρ, M, r, z.bind.imp fun d M1 ι1 F1 H1 s1 f1 m1 q1 v hv => ?_⟩
  cases e : truth d with
  | none => rw [e] at q1; exact q1.elim
  | some b =>
    rw [e, R.of_some, R.bind_ok] at q1
    refine ⟨b, tru_of f1 (.inl hv) e, ?_⟩
    cases b with
    | true => rw [if_pos rfl] at q1 ⊢; exact Res.of_ok q1 f1 m1 v hv
    | false => rw [if_neg (by decide)] at q1 ⊢; exact ⟨ι1, F1, ρ, M1, r.step s1 f1 m1, q1⟩
/-- subscripts -/
theorem pix_ok {b : Expr} (h : pixB b = true) : PlainIx b := by
  cases b <;> first | (intro _ _; rfl) | cases h
theorem s_ix {a b : Expr} {pos : Pos} {ra rb : Sl → Mem → R D} (hp : pixB b = true) (ha : PE X a (tRd X.K cl W ra)) (hb : PE X b (tE X.K cl W rb)) :
    PE X (.Subscript a b pos) (tE X.K cl W fun ρ M => (ra ρ M).bind fun x M1 => (rb ρ M1).bind fun y M2 => R.of (ixD x y) M2) := by
  exact s_op (fun ta tb h1 h2 => pe_ix ix_V h1 h2 (pix_ok hp)) ha (s_toR hb)
/-- a slice -/
def tPt (K : PySem.W.Frag) (cl : Nat → Value) (W : WXX) (x : Ex) (re : Sl → Mem → R D) : TO := fun σ H Q => ∃ ι F ρ M, SR K ι F ρ M σ H ∧ Res K cl W ι F σ H (re ρ M) fun d _ ι' F' H' => ∃ o, partX x d = some o ∧ Q o H'
theorem s_po_none {c : Cfg} : PO X none (tPt X.K cl W (.lit .non) (evE c (.lit .non))) := by
  refine ⟨fun pins s σ H Q I z => po_none.run pins s σ H Q I ?_⟩
  obtain ⟨ι, F, ρ, M, r, z⟩ := z
  simp only [evE] at z
  obtain ⟨o, e, q⟩ := Res.of_ok z r.sub r.mem
  cases e
  exact q
theorem s_po_some {e : Expr} {x : Ex} {re : Sl → Mem → R D} (hx : ∀ d, partX x d = (partD d).map some) (h : PE X e (tE X.K cl W re)) : PO X (some e) (tPt X.K cl W x re) := by
  refine ⟨fun pins s σ H Q I z => (po_some h).run pins s σ H Q I ?_⟩
  obtain ⟨ι, F, ρ, M, r, z⟩ := z
  refine ⟨ι, F, ρ, M, r, z.imp fun d M1 ι1 F1 H1 s1 f1 m1 q v hv => ?_⟩
  obtain ⟨o, e, q⟩ := q
  rw [hx] at e
  unfold partD at e
  split at e
  · cases e
    exact ⟨_, hv.getInt, q⟩
  · cases e
theorem s_sl {e : Expr} {lo hi : Option Expr} {p2 pos : Pos} {xl xh : Ex} {ra rl rh : Sl → Mem → R D} (he : PE X e (tRd X.K cl W ra)) (hl : PO X lo (tPt X.K cl W xl rl)) (hh : PO X hi (tPt X.K cl W xh rh)) :
    PE X (.Subscript e (.Slice lo hi none p2) pos) (tE X.K cl W fun ρ M => (ra ρ M).bind fun x M1 => (rl ρ M1).bind fun y M2 => (R.of (partX xl y) M2).bind fun l M3 => (rh ρ M3).bind fun z M4 => (R.of (partX xh z) M4).bind fun u M5 => R.of (slD x l u) M5) := by
  refine PE.weak (pe_slice sl_V he hl hh) fun σ H Q z => ?_
  obtain ⟨ι, F, ρ, M, r, z⟩ := z
  refine ⟨ι, F, ρ, M, r, z.bind.imp fun x M1 ι1 F1 H1 s1 f1 m1 q1 v hv => ?_⟩
  have r1 := r.step s1 f1 m1
  refine ⟨ι1, F1, ρ, M1, r1, q1.bind.imp fun y M2 ι2 F2 H2 s2 f2 m2 q2 => ?_⟩
  have r2 := r1.step s2 f2 m2
  cases ey : partX xl y with
  | none => rw [ey] at q2; exact q2.elim
  | some l =>
    rw [ey, R.of_some, R.bind_ok] at q2
    refine ⟨l, rfl, ι2, F2, ρ, M2, r2, q2.bind.imp fun z M3 ι3 F3 H3 s3 f3 m3 q3 => ?_⟩
    cases ez : partX xh z with
    | none => rw [ez] at q3; exact q3.elim
    | some u =>
      rw [ez, R.of_some, R.bind_ok] at q3
      obtain ⟨d, e, q4⟩ := s_of q3 f3 m3
      exact ⟨u, rfl, ι3, F3, M3, x, d, f3, m3, s3.repR (s2.repR hv), e, fun F' H' v s f m r => q4 _ _ _ s f m v r⟩
/-! ### calls -/
def tNilE : TE := fun _ _ _ => False
theorem callN_len {f : Nat} {ds : List D} {M : Mem} (h : callN P n f ds M ≠ .st) : ∃ Fd, P.fns[f]? = some Fd ∧ ds.length = Fd.np := by
  cases n with
  | zero => exact absurd rfl h
  | succ n =>
    unfold callN at h
    split at h
    · rename_i Fd e
      split at h
      · rename_i hl; exact ⟨Fd, e, hl⟩
      · exact absurd rfl h
    · exact absurd rfl h
theorem New.early {ι ι1 : List Addr} {F F1 F2 H H1 H2 : Hp} {ι2 : List Addr} {T : Addr → Prop} (s : Stp ι F H ι1 F1 H1) (h : New ι2 F2 H1 H2 T) : New ι2 F2 H H2 T :=
  ⟨fun a ha => let ⟨h1, h2, h3, h4⟩ := h.at_ a ha; ⟨h1, h2, by
    by_cases hh : H a = none
    · exact hh
    · exact absurd h3 (s.live a hh), h4⟩⟩
/-- what is one's own is settled -/
theorem tO_E {K : PySem.W.Frag} {re : Sl → Mem → R (Md × D)} {σ : L2.St} {H : Hp} {Q : VK} (z : tE K cl W (fun ρ M => (re ρ M).bind fun x M1 => .ok x.2 M1) σ H Q) : tO K cl W re σ H Q := by
  obtain ⟨ι, F, ρ, M, r, z⟩ := z
  refine ⟨ι, F, ρ, M, r, ?_⟩
  cases e : re ρ M with
  | st => dsimp only at z; rw [e] at z; exact z
  | ex c M1 => dsimp only at z; rw [e] at z; exact z
  | ok d M1 =>
    dsimp only at z
    rw [e, R.bind_ok] at z
    intro ι1 F1 H1 s1 f1 m1 v T hv hn
    obtain ⟨F2, s2, f2, m2, g1, g2⟩ := s1.settle f1 m1 hn
    exact z ι1 F2 H1 s2 f2 m2 v (hv.settle g1 fun a u h e _ => g2 a u h e)
theorem s_callO (w : XW P nm cl n X sc W) {f : Nat} {x : Str} {p pos : Pos} {es : List Expr} {xs : List Ex} (h1 : nm.fns[f]? = some x) (h2 : glB sc x = true) (hm : mEs X.N nm xs sc es = true)
    (ha : PA X es (tA X.K cl W (evEs (cfgN P n) xs))) : PE X (.Call (.Name x p) es [] pos) (tO X.K cl W fun ρ M => (evEs (cfgN P n) xs ρ M).bind fun ds M1 => callN P n f ds M1) := by
  obtain ⟨g, o⟩ := w.gl h2
  obtain ⟨a1, b1, _⟩ := okN_d o
  obtain ⟨a, fd, ps, e1, hk, hb, F⟩ := w.fx.fns f x h1
  have key : ∀ {ι : List Addr} {F : Hp} {ρ : Sl} {M1 : Mem} {ds : List D} {σ : L2.St} {H : Hp} {Q : VK} {vs : List V}, SR X.K ι F ρ M1 σ H → Reps X.K ι F vs ds →
      Res X.K cl W ι F σ H (callN P n f ds M1) (fun d _ ι' F' H' => ∀ v T, DRep X.K ι' F' H' d.1 v d.2 T → New ι' F' H H' T → Q v H') → spF X.K cl P n f vs H Q (WE W σ) := fun {ι F ρ M1 ds σ H Q vs} r hv q => by
    refine ⟨ι, F, M1, ds, r.sub, r.mem, hv, ?_⟩
    cases e : callN P n f ds M1 with
    | ok d M2 => rw [e] at q; exact q
    | ex c M2 => rw [e] at q; exact q
    | st => rw [e] at q; exact q
  cases es with
  | nil =>
    cases xs with
    | cons _ _ => simp [mEs] at hm
    | nil =>
      refine ⟨fun pins s σ H Q I z => ?_⟩
      obtain ⟨ι, F', ρ, M, r, z⟩ := z
      simp only [evEs, R.bind_ok] at z
      refine wpAny_Call_Name_kw (ld_glob I g e1 ?_ a1)
      exact PySem.W.callWith_K0 I.kIn hk (run_fnS (us := []) F w.room hb (passAt w.tk σ) I .nil (key r .nil z))
  | cons e es =>
    have hn : nst e = true := by
      cases xs with
      | nil => simp [mEs] at hm
      | cons x xs => simp only [mEs, Bool.and_eq_true] at hm; exact hm.1.1
    have hs : (backTo pos (starEach es X.env)).any (·.1) = false := by
      cases xs with
      | nil => simp [mEs] at hm
      | cons x xs => simp only [mEs, Bool.and_eq_true] at hm; exact (star_any (P := P) hm.2).1
    refine PE.weak (pe_callS (E := WE W) F w.room g e1 hk hb (fun σ => passAt w.tk σ) ha a1 (star_ok hn) hs) fun σ H Q z => ?_
    obtain ⟨ι, F', ρ, M, r, z⟩ := z
    refine ⟨ι, F', ρ, M, r, z.bind.imp fun ds M1 ι1 F1 H1 s1 f1 m1 q1 vs hv => ?_⟩
    exact key (r.step s1 f1 m1) hv (q1.imp fun d M2 ι2 F2 H2 s2 f2 m2 q2 v T hd hn => q2 v T hd (hn.early s1))
theorem s_call (w : XW P nm cl n X sc W) {f : Nat} {x : Str} {p pos : Pos} {es : List Expr} {xs : List Ex} (h1 : nm.fns[f]? = some x) (h2 : glB sc x = true) (hm : mEs X.N nm xs sc es = true)
    (ha : PA X es (tA X.K cl W (evEs (cfgN P n) xs))) : PE X (.Call (.Name x p) es [] pos) (tE X.K cl W (evE (cfgN P n) (.call f xs))) :=
  PE.weak (s_callO w h1 h2 hm ha) fun σ H Q z => tO_E (by
    obtain ⟨ι, F, ρ, M, r, z⟩ := z
    refine ⟨ι, F, ρ, M, r, ?_⟩
    simp only [evE] at z
    have e : ∀ (A : VL.R (List D)) (g : List D → Mem → VL.R (Md × D)), ((A.bind g).bind fun x M1 => (VL.R.ok x.2 M1 : VL.R D)) = A.bind fun ds M1 => (g ds M1).bind fun x M1 => .ok x.2 M1 := fun A g => by cases A <;> rfl
    dsimp only
    rw [e]
    exact z)
theorem boot_blt (b : Blt) : bootBuiltins (bltName b) = some (pyBlt b) := by
  cases b <;> decide +kernel
theorem blt_mem (b : Blt) : bltName b ∈ bltNames := by
  cases b <;> decide +kernel
theorem s_blt (w : XW P nm cl n X sc W) {b : Blt} {x : Str} {p pos : Pos} {es : List Expr} {c : Cfg} {xs : List Ex} (h1 : x = bltName b) (h2 : glB sc x = true) (hm : mEs X.N nm xs sc es = true) (hne : es.isEmpty = false)
    (ha : PA X es (tAR X.K cl W (evRs c xs))) : PE X (.Call (.Name x p) es [] pos) (tE X.K cl W (evE c (.blt b xs))) := by
  obtain ⟨g, o⟩ := w.gl h2
  obtain ⟨a1, b1, c1⟩ := okN_d o
  have hmg : X.mg x = none := w.fx.blt x (by rw [h1]; exact blt_mem b)
  have hv : bootBuiltins x = some (pyBlt b) := by rw [h1]; exact boot_blt b
  cases es with
  | nil => cases hne
  | cons e es =>
    have hn : nst e = true := by
      cases xs with
      | nil => simp [mEs] at hm
      | cons x xs => simp only [mEs, Bool.and_eq_true] at hm; exact hm.1.1
    have hs : (backTo pos (starEach es X.env)).any (·.1) = false := by
      cases xs with
      | nil => simp [mEs] at hm
      | cons x xs => simp only [mEs, Bool.and_eq_true] at hm; exact (star_any (P := P) hm.2).1
    have main : ∀ {t : TE}, PE X (.Call (.Name x p) (e :: es) [] pos) (tCB (rCl X.K (bltD b)) (tAR X.K cl W (evRs c xs))) → PE X (.Call (.Name x p) (e :: es) [] pos) (tE X.K cl W (evE c (.blt b xs))) := fun {t} h => by
      refine PE.weak h fun σ H Q z => ?_
      obtain ⟨ι, F', ρ, M, r, z⟩ := z
      simp only [evE] at z
      refine ⟨ι, F', ρ, M, r, z.bind.imp fun ds M1 ι1 F1 H1 s1 f1 m1 q1 vs hv => ?_⟩
      obtain ⟨d, e, q2⟩ := s_of q1 f1 m1
      exact ⟨ι1, F1, M1, ds, d, f1, m1, hv, e, fun F' H' v s f m r => q2 _ _ _ s f m v r⟩
    have hc := cl_blt (X := X) w.calm b
    cases b <;> first
      | exact main (t := tNilE) (pe_callB hc g hmg hv ha c1 a1 (star_ok hn) hs)
      | exact main (t := tNilE) (pe_callTy hc g hmg hv ha c1 a1 (star_ok hn) hs)
/-! ### isinstance -/
theorem boot_ty (t : Ty) : bootBuiltins (tyStr t) = some (.type (tyName t)) := by cases t <;> decide +kernel
theorem boot_isi : bootBuiltins "isinstance" = some (.builtin "isinstance") := by decide +kernel
theorem ty_mem (t : Ty) : tyStr t ∈ bltNames := by cases t <;> decide +kernel
theorem isi_kit {t : Ty} {d : D} {b : Bool} (h : isiD t d = some b) : kitB (tyD d) (tyName t) = some b := by
  cases t <;> cases d <;> simp only [isiD, Option.some.injEq, reduceCtorEq] at h <;> (subst h; simp only [tyD, tyName]; decide +kernel)
theorem s_isi (w : XW P nm cl n X sc W) {t : Ty} {x y : Str} {p p' pos : Pos} {ea : Expr} {ra : Sl → Mem → R D} (h1 : x = "isinstance") (h2 : glB sc x = true) (h3 : y = tyStr t) (h4 : glB sc y = true) (hn : nst ea = true)
    (ha : PE X ea (tRd X.K cl W ra)) : PE X (.Call (.Name x p) [ea, .Name y p'] [] pos) (tE X.K cl W fun ρ M => (ra ρ M).bind fun x M1 => (R.of (isiD t x) M1).bind fun b M2 => .ok (.bl b) M2) := by
  obtain ⟨g, o⟩ := w.gl h2
  obtain ⟨a1, b1, c1⟩ := okN_d o
  obtain ⟨g', o'⟩ := w.gl h4
  obtain ⟨a2, b2, c2⟩ := okN_d o'
  have hy : PE X (.Name y p') (tC (.ty (tyName t))) := pe_bltn g' (w.fx.blt y (by rw [h3]; exact ty_mem t)) (by rw [h3]; exact boot_ty t) rfl c2 a2
  have hst : starEach [Expr.Name y p'] X.env = (false, eval (.Name y p') X.env) :: starEach [] X.env := rfl
  refine PE.weak (pe_callB call_isi g (w.fx.blt x (by rw [h1]; decide +kernel)) (by rw [h1]; exact boot_isi) (pa_cons ha (pa_cons hy pa_nil hst) (star_ok hn)) c1 a1 (star_ok hn) (by rw [hst]; rfl)) fun σ H Q z => ?_
  obtain ⟨ι, F', ρ, M, r, z⟩ := z
  refine ⟨ι, F', ρ, M, r, z.bind.imp fun d M1 ι1 F1 H1 s1 f1 m1 q1 v hv => ?_⟩
  cases e : isiD t d with
  | none => rw [e] at q1; exact q1.elim
  | some b =>
    rw [e, R.of_some, R.bind_ok] at q1
    have q2 := Res.of_ok q1 f1 m1
    refine ⟨v, .ty (tyName t), .type (tyD d), .type (tyName t), b, rfl, .ty _, hv.ty f1 (fun c fs z => by rw [z] at e; cases t <;> cases e) (fun n z => by rw [z] at e; cases t <;> cases e) (fun k n z => by rw [z] at e; cases t <;> cases e) (fun n z => by rw [z] at e; cases t <;> cases e), kit_ty (isi_kit e), q2 _ (.bl b)⟩

/-! ### tests -/
theorem R.bind_assoc {α β γ : Type} (r : R α) (f : α → Mem → R β) (g : β → Mem → R γ) : (r.bind f).bind g = r.bind fun a M => (f a M).bind g := by cases r <;> rfl
theorem s_tplain {e : Expr} {ra : Sl → Mem → R D} (he : PE X e (tRd X.K cl W ra)) (hp : ∀ whole, isTrue e X.env whole = (do let v ← whole; standAt e.pos; holding [v] (truthy v))) :
    PT X e (tT X.K cl W fun ρ M => (ra ρ M).bind fun d M1 => R.of (truth d) M1) := by
  refine PT.weak (pt_truth he hp) fun σ H Q z => ?_
  obtain ⟨ι, F, ρ, M, r, z⟩ := z
  refine ⟨ι, F, ρ, M, r, z.bind.imp fun d M1 ι1 F1 H1 s1 f1 m1 q1 v hv => ?_⟩
  obtain ⟨b, e, q2⟩ := s_of q1 f1 m1
  exact ⟨b, tru_of f1 hv e, q2 _ _ _ Stp.refl f1 m1⟩
theorem cmpD_bl {o : COp} {a b d : D} (h : cmpD o a b = some d) : ∃ t, d = .bl t := by
  cases o <;> simp only [cmpD] at h
  · simp only [Option.map_eq_some_iff] at h; obtain ⟨t, _, rfl⟩ := h; exact ⟨_, rfl⟩
  · simp only [Option.map_eq_some_iff] at h; obtain ⟨t, _, rfl⟩ := h; exact ⟨_, rfl⟩
  · split at h
    · cases h; exact ⟨_, rfl⟩
    · cases h
  · split at h
    · cases h; exact ⟨_, rfl⟩
    · cases h
  · split at h
    · cases h; exact ⟨_, rfl⟩
    · cases h
  · split at h
    · cases h; exact ⟨_, rfl⟩
    · cases h
  · split at h
    · simp only [Option.map_eq_some_iff] at h; obtain ⟨t, _, rfl⟩ := h; exact ⟨_, rfl⟩
    · simp only [Option.map_eq_some_iff] at h; obtain ⟨t, _, rfl⟩ := h; exact ⟨_, rfl⟩
    · simp only [Option.map_eq_some_iff] at h; obtain ⟨t, _, rfl⟩ := h; exact ⟨_, rfl⟩
    · cases h
  · split at h
    · simp only [Option.map_eq_some_iff] at h; obtain ⟨t, _, rfl⟩ := h; exact ⟨_, rfl⟩
    · simp only [Option.map_eq_some_iff] at h; obtain ⟨t, _, rfl⟩ := h; exact ⟨_, rfl⟩
    · simp only [Option.map_eq_some_iff] at h; obtain ⟨t, _, rfl⟩ := h; exact ⟨_, rfl⟩
    · cases h
theorem s_tcmp (w : XW P nm cl n X sc W) {o : COp} {a b : Expr} {pos : Pos} {ra rb : Sl → Mem → R D} (hm : behindInMarks (pyCmp o) b = false) (ha : PE X a (tRd X.K cl W ra)) (hb : PE X b (tRd X.K cl W rb)) :
    PT X (.Compare a [pyCmp o] [b] pos) (tT X.K cl W fun ρ M => ((ra ρ M).bind fun x M1 => (rb ρ M1).bind fun y M2 => R.of (cmpD o x y) M2).bind fun d M3 => R.of (truth d) M3) := by
  refine PT.weak (pt_cmpR (op_cmp w.hu o) ha hb hm) fun σ H Q z => ?_
  obtain ⟨ι, F, ρ, M, r, z⟩ := z
  simp only [R.bind_assoc] at z
  refine ⟨ι, F, ρ, M, r, z.bind.imp fun x M1 ι1 F1 H1 s1 f1 m1 q1 v hv => ?_⟩
  refine ⟨ι1, F1, ρ, M1, r.step s1 f1 m1, q1.bind.imp fun y M2 ι2 F2 H2 s2 f2 m2 q2 u hu => ?_⟩
  cases e : cmpD o x y with
  | none => rw [e] at q2; exact q2.elim
  | some d =>
    rw [e, R.of_some, R.bind_ok] at q2
    obtain ⟨t, rfl⟩ := cmpD_bl e
    refine ⟨ι2, F2, M2, x, y, _, f2, m2, s2.repR hv, hu, e, fun F' H' v s f m hr => ?_⟩
    cases hr
    exact ⟨t, rfl, q2 _ _ _ s f m⟩
theorem s_tval {e : Expr} {ra : Sl → Mem → R D} {t : TE} (h : PT X e (tTest t)) (hq : ∀ σ H Q, tE X.K cl W ra σ H Q → t σ H Q) (hb : ∀ ρ M d M', ra ρ M = .ok d M' → ∃ b, d = .bl b) :
    PT X e (tT X.K cl W fun ρ M => (ra ρ M).bind fun d M1 => R.of (truth d) M1) := by
  refine PT.weak h fun σ H Q z => hq σ H _ ?_
  obtain ⟨ι, F, ρ, M, r, z⟩ := z
  refine ⟨ι, F, ρ, M, r, z.bind.imp' fun d M1 el ι1 F1 H1 s1 f1 m1 q1 v hv => ?_⟩
  obtain ⟨b, rfl⟩ := hb _ _ _ _ el
  cases hv
  exact ⟨b, rfl, Res.of_ok q1 f1 m1⟩
theorem s_tnot {a : Expr} {pos : Pos} {rt : Sl → Mem → R Bool} (h : PT X a (tT X.K cl W rt)) : PT X (.UnaryOp .Not a pos) (tT X.K cl W fun ρ M => (rt ρ M).bind fun b M1 => .ok (!b) M1) := by
  refine PT.weak (pt_not h) fun σ H Q z => ?_
  obtain ⟨ι, F, ρ, M, r, z⟩ := z
  exact ⟨ι, F, ρ, M, r, z.bind.imp fun b M1 ι1 F1 H1 s1 f1 m1 q1 => Res.of_ok q1 f1 m1⟩
theorem PW.weak {X : Cx} {e : Expr} {t t' : TT} (h : PW X e t) (q : ∀ σ H Q, t' σ H Q → t σ H Q) : PW X e t' := ⟨fun wh pins s σ H Q I z => h.run wh pins s σ H Q I (q σ H Q z)⟩
theorem s_wand {a b : Expr} {rest : List Expr} {pos : Pos} {ra rr : Sl → Mem → R Bool} (ha : PT X a (tT X.K cl W ra)) (hb : PW X (.BoolOp .And (b :: rest) pos) (tT X.K cl W rr)) :
    PW X (.BoolOp .And (a :: b :: rest) pos) (tT X.K cl W fun ρ M => (ra ρ M).bind fun t M1 => if t = true then rr ρ M1 else .ok false M1) := by
  refine PW.weak (pw_and ha hb) fun σ H Q z => ?_
  obtain ⟨ι, F, ρ, M, r, z⟩ := z
  refine ⟨ι, F, ρ, M, r, z.bind.imp fun t M1 ι1 F1 H1 s1 f1 m1 q1 => ?_⟩
  cases t with
  | true => exact ⟨ι1, F1, ρ, M1, r.step s1 f1 m1, q1⟩
  | false => exact Res.of_ok q1 f1 m1
theorem s_wor {a b : Expr} {rest : List Expr} {pos : Pos} {ra rr : Sl → Mem → R Bool} (ha : PT X a (tT X.K cl W ra)) (hb : PW X (.BoolOp .Or (b :: rest) pos) (tT X.K cl W rr)) :
    PW X (.BoolOp .Or (a :: b :: rest) pos) (tT X.K cl W fun ρ M => (ra ρ M).bind fun t M1 => if t = true then .ok true M1 else rr ρ M1) := by
  refine PW.weak (pw_or ha hb) fun σ H Q z => ?_
  obtain ⟨ι, F, ρ, M, r, z⟩ := z
  refine ⟨ι, F, ρ, M, r, z.bind.imp fun t M1 ι1 F1 H1 s1 f1 m1 q1 => ?_⟩
  cases t with
  | false => exact ⟨ι1, F1, ρ, M1, r.step s1 f1 m1, q1⟩
  | true => exact Res.of_ok q1 f1 m1
end
end VL
/-! V5: targets, walks, comprehensions; all expressions -/
namespace VL
open PySem PySem.Spec PyProof.Rows L2
section
variable {K : PySem.W.Frag} {ι ι' : List Addr} {F F' H H' : Hp} {ρ ρ' : Sl} {M M' : Mem} {σ σ' : L2.St} {cl : Nat → Value} {W : WXX}
/-- a slot is set -/
theorem SRO.set_ {O : Addr → Prop} {i : Nat} {x : SV} {o : Option V} (r : SRO K ι F O ρ M σ H) (hx : ∀ m d, x ≠ .ow m d) (h : ∀ d, x = .fz d → ∃ v, o = some v ∧ Rep K ι F v d) : SRO K ι F O (ρ.set i x) M (σ.set i o) H := by
  refine ⟨r.sub, r.mem, by simp [r.len], fun j d' hj => ?_, r.own, ?_⟩
  · rw [List.getElem?_set] at hj ⊢
    by_cases e : i = j
    · subst e
      rw [if_pos rfl] at hj ⊢
      rw [← r.len]
      split at hj
      · rename_i hl
        rw [if_pos hl]
        cases hj
        obtain ⟨v, e1, q⟩ := h _ rfl
        exact ⟨v, by rw [e1], q⟩
      · cases hj
    · rw [if_neg e] at hj ⊢; exact r.fz j d' hj
  · obtain ⟨S, h1, h2, h3⟩ := r.ow
    refine ⟨S, fun j m d hj => ?_, h2, h3⟩
    have ne : i ≠ j := fun e => by
      subst e; rw [List.getElem?_set, if_pos rfl] at hj
      split at hj
      · cases hj; exact hx _ _ rfl
      · cases hj
    rw [List.getElem?_set_ne ne] at hj ⊢
    exact h1 j m d hj
theorem SRO.setFz {O : Addr → Prop} {i : Nat} {d : D} {v : V} (r : SRO K ι F O ρ M σ H) (hv : Rep K ι F v d) : SRO K ι F O (ρ.set i (.fz d)) M (σ.set i (some v)) H :=
  r.set_ (fun _ _ e => by cases e) fun d' e => by cases e; exact ⟨v, rfl, hv⟩
theorem SRO.setUn {O : Addr → Prop} {i : Nat} {o : Option V} (r : SRO K ι F O ρ M σ H) : SRO K ι F O (ρ.set i .un) M (σ.set i o) H := r.set_ (fun _ _ e => by cases e) fun d' e => by cases e
theorem SRO.wipe {O : Addr → Prop} (r : SRO K ι F O ρ M σ H) : ∀ vs : List Nat, SRO K ι F O (killS ρ vs) M (L2.wipe σ vs) H
  | [] => r
  | v :: vs => by
    show SRO K ι F O ((killS ρ vs).set v .un) M ((L2.wipe σ vs).set v none) H
    exact (r.wipe vs).setUn
theorem SRO.killed {O : Addr → Prop} (r : SRO K ι F O ρ M σ H) : ∀ vs : List Nat, SRO K ι F O (killS ρ vs) M σ H
  | [] => r
  | v :: vs => by
    have h := (r.killed vs).setUn (i := v) (o := (σ[v]?).getD none)
    show SRO K ι F O ((killS ρ vs).set v .un) M σ H
    have e : σ.set v ((σ[v]?).getD none) = σ := by
      apply List.ext_getElem?
      intro j
      rw [List.getElem?_set]
      split
      · rename_i e; subst e
        split
        · rename_i hl; rw [List.getElem?_eq_getElem hl]; rfl
        · rename_i hl; rw [List.getElem?_eq_none (Nat.le_of_not_lt hl)]
      · rfl
    rw [e] at h
    exact h
theorem SR.wipe (r : SR K ι F ρ M σ H) (vs : List Nat) : SR K ι F (killS ρ vs) M (L2.wipe σ vs) H := let ⟨O, r⟩ := r; ⟨O, r.wipe vs⟩
/-- slots that a pattern leaves -/
def Out (p : List Nat) (σ σ' : L2.St) : Prop := σ'.length = σ.length ∧ ∀ i, i ∉ p → σ'[i]? = σ[i]?
theorem Out.refl {p : List Nat} : Out p σ σ := ⟨rfl, fun _ _ => rfl⟩
theorem Out.trans {p q : List Nat} {σ1 : L2.St} (a : Out p σ σ1) (b : Out q σ1 σ') : Out (p ++ q) σ σ' :=
  ⟨b.1.trans a.1, fun i h => by rw [List.mem_append, not_or] at h; exact (b.2 i h.2).trans (a.2 i h.1)⟩
theorem wipe_get (vs : List Nat) (σ : L2.St) (i : Nat) : (L2.wipe σ vs)[i]? = if i ∈ vs then (if i < σ.length then some none else none) else σ[i]? := by
  induction vs with
  | nil => simp [L2.wipe]
  | cons v vs ih =>
    show ((L2.wipe σ vs).set v none)[i]? = _
    rw [List.getElem?_set, L2.wipe_length, ih]
    by_cases e : v = i
    · subst e; simp
    · rw [if_neg e]
      have : (i ∈ v :: vs) ↔ i ∈ vs := by simp [Ne.symm e]
      simp only [this]
theorem Out.wipe {p vs : List Nat} (h : Out p (L2.wipe σ vs) σ') (hs : ∀ i ∈ p, i ∈ vs) : L2.wipe σ' vs = L2.wipe σ vs := by
  apply List.ext_getElem?
  intro i
  have hl : σ'.length = σ.length := h.1.trans (L2.wipe_length σ vs)
  rw [wipe_get, wipe_get, hl]
  by_cases e : i ∈ vs
  · rw [if_pos e, if_pos e]
  · rw [if_neg e, if_neg e, h.2 i (fun z => e (hs i z)), wipe_get, if_neg e]
/-- a target's reading -/
def tG (K : PySem.W.Frag) (p : Pt) : TG := fun v σ H Q => ∃ ι F O ρ M d ρ', SRO K ι F O ρ M σ H ∧ Rep K ι F v d ∧ bindP p d ρ = some ρ' ∧ ∀ σ', SRO K ι F O ρ' M σ' H → Out (ptV p) σ σ' → Q σ' H
def tGs (K : PySem.W.Frag) (ps : List Pt) : TGs := fun vs σ H Q => ∃ ι F O ρ M ds ρ', SRO K ι F O ρ M σ H ∧ Reps K ι F vs ds ∧ ds.length = ps.length ∧ bindPs ps ds ρ = some ρ' ∧ ∀ σ', SRO K ι F O ρ' M σ' H → Out (ptVs ps) σ σ' → Q σ' H
theorem PG.weak {X : Cx} {e : Expr} {t t' : TG} (h : PG X e t) (q : ∀ v σ H Q, t' v σ H Q → t v σ H Q) : PG X e t' := ⟨fun pins s σ H v u Q I r z => h.run pins s σ H v u Q I r (q v σ H Q z)⟩
theorem PGs.weak {X : Cx} {e : List Expr} {t t' : TGs} (h : PGs X e t) (q : ∀ v σ H Q, t' v σ H Q → t v σ H Q) : PGs X e t' := ⟨fun pins s σ H v u Q I r z => h.run pins s σ H v u Q I r (q v σ H Q z)⟩
theorem assign_each {e : Expr} {es : List Expr} {env : Env} (h : nst e = true) : (assignEach (e :: es) env).map (·.2) = assign e env :: (assignEach es env).map (·.2) := by
  cases e <;> first | rfl | cases h
section
variable {P : Prog} {nm : Nms} {n : Nat} {X : Cx} {sc : Scope}
theorem mPs_len {N : List Str} : ∀ {ps : List Pt} {es : List Expr}, mPs N sc ps es = true → ps.length = es.length
  | [], [], _ => rfl
  | [], _ :: _, h => by simp [mPs] at h
  | _ :: _, [], h => by simp [mPs] at h
  | p :: ps, e :: es, h => by
    simp only [mPs, Bool.and_eq_true] at h
    simp [mPs_len h.2]
theorem assign_none {e : Expr} {es : List Expr} {env : Env} (h : nst e = true) : assignEach (e :: es) env = (false, assign e env) :: assignEach es env := by
  cases e <;> first | rfl | cases h
theorem assign_plain {N : List Str} {env : Env} : ∀ {ps : List Pt} {es : List Expr}, mPs N sc ps es = true → (assignEach es env).length = es.length ∧ (assignEach es env).findIdx? (·.1) = none
  | [], [], _ => ⟨rfl, rfl⟩
  | [], _ :: _, h => by simp [mPs] at h
  | _ :: _, [], h => by simp [mPs] at h
  | p :: ps, e :: es, h => by
    simp only [mPs, Bool.and_eq_true] at h
    have ih := assign_plain (env := env) h.2
    rw [assign_none h.1.1]
    refine ⟨by simp [ih.1], ?_⟩
    rw [List.findIdx?_cons]
    simp [ih.2]
mutual
theorem s_pat (w : XW P nm cl n X sc W) : ∀ {p : Pt} {e : Expr}, mP X.N sc p e = true → PG X e (tG X.K p)
  | .v i, e, h => by
    simp only [mP] at h
    split at h
    · simp only [Bool.and_eq_true, decide_eq_true_eq] at h
      obtain ⟨l, f⟩ := w.loc h.2
      refine PG.weak (pg_name w.nd h.1 l f) fun v σ H Q z => ?_
      obtain ⟨ι, F, O, ρ, M, d, ρ', r, hv, e, q⟩ := z
      simp only [bindP, Option.some.injEq] at e
      subst e
      refine q _ (r.setFz hv) ⟨by simp, fun j hj => ?_⟩
      have : i ≠ j := fun e => hj (by simp [ptV, e])
      rw [List.getElem?_set_ne this]
    · cases h
  | .t ps, e, h => by
    simp only [mP] at h
    split at h
    · refine PG.weak (pg_tup w.calm (s_pats w h) (assign_plain h).1 (assign_plain h).2) fun v σ H Q z => ?_
      obtain ⟨ι, F, O, ρ, M, d, ρ', r, hv, e, q⟩ := z
      simp only [bindP] at e
      split at e
      · rename_i ds
        split at e
        · rename_i hl
          cases hv with
          | tup a rs =>
            refine ⟨_, _, rfl, .inl (.inl (r.sub.tup a)), ?_, ι, F, O, ρ, M, ds, ρ', r, rs, hl, e, q⟩
            rw [rs.length, hl]
            exact mPs_len h
        · cases e
      · cases e
    · cases h
theorem s_pats (w : XW P nm cl n X sc W) : ∀ {ps : List Pt} {es : List Expr}, mPs X.N sc ps es = true → PGs X es (tGs X.K ps)
  | [], es, h => by
    simp only [mPs, List.isEmpty_iff] at h
    subst h
    refine PGs.weak pgs_nil fun v σ H Q z => ?_
    obtain ⟨ι, F, O, ρ, M, ds, ρ', r, hv, hl, e, q⟩ := z
    cases hv with
    | nil => simp only [bindPs, Option.some.injEq] at e; subst e; exact ⟨rfl, q σ r Out.refl⟩
    | cons _ _ => simp at hl
  | p :: ps, [], h => by simp [mPs] at h
  | p :: ps, e :: es, h => by
    simp only [mPs, Bool.and_eq_true] at h
    refine PGs.weak (pgs_cons (s_pat w h.1.2) (s_pats w h.2) (assign_each h.1.1)) fun v σ H Q z => ?_
    obtain ⟨ι, F, O, ρ, M, ds, ρ', r, hv, hl, e, q⟩ := z
    cases hv with
    | nil => simp at hl
    | cons h1 h2 =>
      simp only [bindPs] at e
      split at e
      · rename_i ρ1 e1
        refine ⟨_, _, rfl, ι, F, O, ρ, M, _, ρ1, r, h1, e1, fun σ1 r1 o1 => ?_⟩
        exact ⟨ι, F, O, ρ1, M, _, ρ', r1, h2, by simpa using hl, e, fun σ2 r2 o2 => q σ2 r2 (o1.trans o2)⟩
      · cases e
end
/-! ### walks -/
/-- what is settled stands as it stood -/
def Kp (F H0 H1 : Hp) : Prop := ∀ a u, F a ≠ none → H0 a = some u → H1 a = some u
theorem Stp.kp {K : PySem.W.Frag} {M : Mem} (s : Stp ι F H ι' F' H') (m : MemRep K ι F M H) : Kp F H H' := fun a u h e => s.keep a u e fun z => h (m.there z).2
theorem Kp.refl : Kp F H H := fun _ _ _ h => h
theorem Kp.trans {G0 G1 G2 : Hp} (h : Kp F G0 G1) (h2 : Kp F' G1 G2) (hF : ∀ a u, F a = some u → F' a = some u) : Kp F G0 G2 := fun a u n e => h2 a u (by
  cases q : F a with
  | none => exact absurd q n
  | some w => rw [hF a w q]; exact fun z => by cases z) (h a u n e)
structure Wk (K : PySem.W.Frag) (J : It) (ι : List Addr) (F H0 : Hp) (ds : List D) : Prop where
  go : ∀ i F1 H1, (∀ a u, F a = some u → F1 a = some u) → FSub F1 H1 → Kp F H0 H1 → i < ds.length → J.go i H1
  yld : ∀ i ι1 F1 H1 M1 x H2, (∀ (n : Nat) a, ι[n]? = some a → ι1[n]? = some a) → (∀ a u, F a = some u → F1 a = some u) → FSub F1 H1 → Kp F H0 H1 → MemRep K ι1 F1 M1 H1 → J.yld i H1 x H2 → i < ds.length →
    ∃ d F2, ds[i]? = some d ∧ Stp ι1 F1 H1 ι1 F2 H2 ∧ FSub F2 H2 ∧ MemRep K ι1 F2 M1 H2 ∧ Rep K ι1 F2 x d
  stop : ∀ F1 H1, (∀ a u, F a = some u → F1 a = some u) → FSub F1 H1 → Kp F H0 H1 → J.stop ds.length H1
def tI (K : PySem.W.Frag) (cl : Nat → Value) (W : WXX) (r : Sl → Mem → R (List D)) : TI := fun σ H R => ∃ ι F ρ M, SR K ι F ρ M σ H ∧ Res K cl W ι F σ H (r ρ M) fun ds _ ι' F' H' => ∀ J, Wk K J ι' F' H' ds → ds.length ≤ sizeLine → R J H'
theorem PI.weak {X : Cx} {tg e : Expr} {t t' : TI} (h : PI X tg e t) (q : ∀ σ H Q, t' σ H Q → t σ H Q) : PI X tg e t' := ⟨fun pins s σ H Q I z => h.run pins s σ H Q I (q σ H Q z)⟩
theorem PI.or {X : Cx} {tg e : Expr} {t t' : TI} (h : PI X tg e t) (h' : PI X tg e t') : PI X tg e (fun σ H R => t σ H R ∨ t' σ H R) :=
  ⟨fun pins s σ H Q I z => z.elim (fun z => h.run pins s σ H Q I z) fun z => h'.run pins s σ H Q I z⟩
def Sized (K : PySem.W.Frag) (H : Hp) : Prop := (∀ a xs, SqL K H a xs → xs.length ≤ sizeLine) ∧ ∀ a xs, SqT K H a xs → xs.length ≤ sizeLine
theorem PI.sized {X : Cx} {tg e : Expr} {t : TI} (h : PI X tg e t) (mono : ∀ σ H R R', (∀ J H, R J H → R' J H) → t σ H R → t σ H R') : PI X tg e (fun σ H R => t σ H fun J H1 => Sized X.K H1 → R J H1) := by
  refine ⟨fun pins s σ H R I z => ?_⟩
  refine thn (h.run pins s σ H _ I z) fun v s1 h1 => thn h1 fun itv s2 ⟨it, fp, tn, J, H', e, I2, T, t0, f, q⟩ => ?_
  exact ⟨it, fp, tn, J, H', e, I2, T, t0, f, q ⟨fun a xs h => let ⟨_, _, _, z⟩ := I2.list h; z, fun a xs h => let ⟨_, _, _, z⟩ := I2.tuple h; z⟩⟩
theorem wk_list {H0 : Hp} {vs : List V} {ds : List D} {a : Addr} (h : SqL K F a vs) (r : Reps K ι F vs ds) : Wk K (Itl K a) ι F H0 ds := by
  refine ⟨fun i F1 H1 hF f _ hi => ?_, fun i ι1 F1 H1 M1 x H2 hι hF f _ m y hi => ?_, fun F1 H1 hF f _ => ?_⟩
  · have hi' : i < vs.length := by rw [r.length]; exact hi
    exact ⟨vs, vs[i], f.sqL (SqL.mono hF h), List.getElem?_eq_getElem hi'⟩
  · obtain ⟨rfl, y⟩ := y
    have hi' : i < vs.length := by rw [r.length]; exact hi
    have e := y vs (f.sqL (SqL.mono hF h))
    obtain ⟨d, e1, r1⟩ := r.getV e
    exact ⟨d, F1, e1, Stp.refl, f, m, r1.mono hι hF⟩
  · exact ⟨vs, f.sqL (SqL.mono hF h), by rw [r.length]; exact Nat.le_refl _⟩
theorem wk_tup {H0 : Hp} {vs : List V} {ds : List D} {a : Addr} (h : SqT K F a vs) (r : Reps K ι F vs ds) : Wk K (Itt K a) ι F H0 ds := by
  refine ⟨fun i F1 H1 hF f _ hi => ?_, fun i ι1 F1 H1 M1 x H2 hι hF f _ m y hi => ?_, fun F1 H1 hF f _ => ?_⟩
  · have hi' : i < vs.length := by rw [r.length]; exact hi
    exact ⟨vs, vs[i], f.sqT (SqT.mono hF h), List.getElem?_eq_getElem hi'⟩
  · obtain ⟨rfl, y⟩ := y
    have hi' : i < vs.length := by rw [r.length]; exact hi
    have e := y vs (f.sqT (SqT.mono hF h))
    obtain ⟨d, e1, r1⟩ := r.getV e
    exact ⟨d, F1, e1, Stp.refl, f, m, r1.mono hι hF⟩
  · exact ⟨vs, f.sqT (SqT.mono hF h), by rw [r.length]; exact Nat.le_refl _⟩
theorem wk_revL {H0 : Hp} {vs : List V} {ds : List D} {a : Addr} (h : SqL K F a vs) (r : Reps K ι F vs ds) : Wk K (L2.Itv K a vs.length) ι F H0 ds.reverse := by
  refine ⟨fun i F1 H1 hF f _ hi => ?_, fun i ι1 F1 H1 M1 x H2 hι hF f _ m y hi => ?_, fun F1 H1 hF f _ => ?_⟩
  · have hi' : i < vs.length := by rw [r.length]; simpa using hi
    exact ⟨hi', vs, vs[vs.length - 1 - i], f.sqL (SqL.mono hF h), List.getElem?_eq_getElem (by omega)⟩
  · obtain ⟨rfl, y⟩ := y
    have hi' : i < vs.length := by rw [r.length]; simpa using hi
    have e := y vs (f.sqL (SqL.mono hF h))
    obtain ⟨d, e1, r1⟩ := r.getV e
    refine ⟨d, F1, ?_, Stp.refl, f, m, r1.mono hι hF⟩
    rw [List.getElem?_reverse (by rw [← r.length]; exact hi'), ← r.length]
    exact e1
  · show vs.length ≤ _
    rw [r.length]; simp
theorem wk_revT {H0 : Hp} {vs : List V} {ds : List D} {a : Addr} (h : SqT K F a vs) (r : Reps K ι F vs ds) : Wk K (RT.ItvT K a vs.length) ι F H0 ds.reverse := by
  refine ⟨fun i F1 H1 hF f _ hi => ?_, fun i ι1 F1 H1 M1 x H2 hι hF f _ m y hi => ?_, fun F1 H1 hF f _ => ?_⟩
  · have hi' : i < vs.length := by rw [r.length]; simpa using hi
    exact ⟨hi', vs, vs[vs.length - 1 - i], f.sqT (SqT.mono hF h), List.getElem?_eq_getElem (by omega)⟩
  · obtain ⟨rfl, y⟩ := y
    have hi' : i < vs.length := by rw [r.length]; simpa using hi
    have e := y vs (f.sqT (SqT.mono hF h))
    obtain ⟨d, e1, r1⟩ := r.getV e
    refine ⟨d, F1, ?_, Stp.refl, f, m, r1.mono hι hF⟩
    rw [List.getElem?_reverse (by rw [← r.length]; exact hi'), ← r.length]
    exact e1
  · show vs.length ≤ _
    rw [r.length]; simp
theorem wk_rng {H0 : Hp} {lo : Int} {n : Nat} {b : Int} (h : (b - lo).toNat = n) : Wk K (Itr lo n) ι F H0 (rngD lo b) := by
  have hl : (rngD lo b).length = n := by simp [rngD, h]
  refine ⟨fun i F1 H1 hF f _ hi => by rw [hl] at hi; exact hi, fun i ι1 F1 H1 M1 x H2 hι hF f _ m y hi => ?_, fun F1 H1 hF f _ => by rw [hl]; exact Nat.le_refl _⟩
  obtain ⟨rfl, rfl⟩ := y
  rw [hl] at hi
  refine ⟨.int (lo + (i : Nat)), F1, ?_, Stp.refl, f, m, .int _⟩
  unfold rngD
  rw [List.getElem?_map, List.getElem?_range (by omega)]
  rfl
theorem rngD_length (a b : Int) : (rngD a b).length = (b - a).toNat := by simp [rngD]
theorem iter_boot : bootBuiltins "reversed" = some (.type "reversed") := by decide +kernel
variable {c : Cfg}
theorem s_iseq {tg e : Expr} {re : Sl → Mem → R D} (he : PE X e (tE X.K cl W re)) :
    PI X tg e (tI X.K cl W fun ρ M => (re ρ M).bind fun d M1 => R.of (itD .seq [d]) M1) := by
  have mono : ∀ (k : Hp → Addr → Prop) (j : Addr → It), ∀ σ H (R R' : It → Hp → Prop), (∀ J H, R J H → R' J H) → (tE X.K cl W re σ H fun x H1 => ∃ a, x = .ref a ∧ k H1 a ∧ R (j a) H1) → tE X.K cl W re σ H fun x H1 => ∃ a, x = .ref a ∧ k H1 a ∧ R' (j a) H1 := fun k j σ H R R' im z => by
    obtain ⟨ι, F, ρ, M, r, z⟩ := z
    exact ⟨ι, F, ρ, M, r, z.imp fun d M1 ι1 F1 H1 s1 f1 m1 q v hv => let ⟨a, e, x, y⟩ := q v hv; ⟨a, e, x, im _ _ y⟩⟩
  have h1 := PI.sized (pi_list (tg := tg) he) (mono (fun H1 a => ∃ xs, SqL X.K H1 a xs) (Itl X.K))
  have h2 := PI.sized (pi_tup (tg := tg) he) (mono (fun H1 a => ∃ xs, SqT X.K H1 a xs) (Itt X.K))
  refine PI.weak (PI.or h1 h2) fun σ H R z => ?_
  obtain ⟨ι, F, ρ, M, r, z⟩ := z
  have z := z.bind
  cases e : re ρ M with
  | st => rw [e] at z; exact z.elim
  | ex c' M' => rw [e] at z; exact .inl ⟨ι, F, ρ, M, r, by rw [e]; exact z⟩
  | ok d M1 =>
    rw [e] at z
    have hd : (∃ ds, d = .lst ds) ∨ (∃ ds, d = .tup ds) ∨ (∃ ds, d = .ktup ds) ∨ itD .seq [d] = none := by
      cases d <;> first | exact .inl ⟨_, rfl⟩ | exact .inr (.inl ⟨_, rfl⟩) | exact .inr (.inr (.inl ⟨_, rfl⟩)) | exact .inr (.inr (.inr rfl))
    rcases hd with ⟨ds, rfl⟩ | ⟨ds, rfl⟩ | ⟨ds, rfl⟩ | hd
    · refine .inl ⟨ι, F, ρ, M, r, ?_⟩
      rw [e]
      intro ι1 F1 H1 s1 f1 m1 v hv
      have q : Res X.K cl W ι1 F1 σ H1 (VL.R.ok ds M1) _ := z ι1 F1 H1 s1 f1 m1
      have q := Res.of_ok q f1 m1
      cases hv with
      | lst a1 r1 =>
        refine ⟨_, rfl, ⟨_, f1.sqL a1⟩, fun sz => q _ (wk_list a1 r1) ?_⟩
        rw [← r1.length]; exact sz.1 _ _ (f1.sqL a1)
    · refine .inr ⟨ι, F, ρ, M, r, ?_⟩
      rw [e]
      intro ι1 F1 H1 s1 f1 m1 v hv
      have q : Res X.K cl W ι1 F1 σ H1 (VL.R.ok ds M1) _ := z ι1 F1 H1 s1 f1 m1
      have q := Res.of_ok q f1 m1
      cases hv with
      | tup a1 r1 =>
        have a2 : SqT X.K F1 _ _ := .inl (.inl a1)
        refine ⟨_, rfl, ⟨_, f1.sqT a2⟩, fun sz => q _ (wk_tup a2 r1) ?_⟩
        rw [← r1.length]; exact sz.2 _ _ (f1.sqT a2)
    · refine .inr ⟨ι, F, ρ, M, r, ?_⟩
      rw [e]
      intro ι1 F1 H1 s1 f1 m1 v hv
      have q : Res X.K cl W ι1 F1 σ H1 (VL.R.ok ds M1) _ := z ι1 F1 H1 s1 f1 m1
      have q := Res.of_ok q f1 m1
      cases hv with
      | ktup a1 r1 =>
        refine ⟨_, rfl, ⟨_, f1.sqT a1⟩, fun sz => q _ (wk_tup a1 r1) ?_⟩
        rw [← r1.length]; exact sz.2 _ _ (f1.sqT a1)
    · refine .inl ⟨ι, F, ρ, M, r, ?_⟩
      rw [e]
      intro ι1 F1 H1 s1 f1 m1 v hv
      have q : Res X.K cl W ι1 F1 σ H1 (VL.R.of (itD .seq [d]) M1) _ := z ι1 F1 H1 s1 f1 m1
      rw [hd] at q
      exact q.elim
theorem s_irev (w : XW P nm cl n X sc W) {tg e : Expr} {x : Str} {p pos : Pos} {re : Sl → Mem → R D} (h1 : x = "reversed") (h2 : glB sc x = true) (hn : nst e = true) (he : PE X e (tE X.K cl W re)) :
    PI X tg (.Call (.Name x p) [e] [] pos) (tI X.K cl W fun ρ M => (re ρ M).bind fun d M1 => R.of (itD .rev [d]) M1) := by
  obtain ⟨g, o⟩ := w.gl h2
  subst h1
  have hm : X.mg "reversed" = none := w.fx.blt _ (by decide +kernel)
  have hp := RT.pi_revA (X := X) (tg := tg) (p := p) (pos := pos) g hm he (star_ok hn)
  have hz := PI.sized hp fun σ H R R' im z => by
    obtain ⟨ι, F, ρ, M, r, z⟩ := z
    refine ⟨ι, F, ρ, M, r, z.imp fun d M1 ι1 F1 H1 s1 f1 m1 q v hv => ?_⟩
    obtain ⟨a, xs, e, q⟩ := q v hv
    exact ⟨a, xs, e, q.elim (fun q => .inl ⟨q.1, im _ _ q.2⟩) fun q => .inr ⟨q.1, im _ _ q.2⟩⟩
  refine PI.weak hz fun σ H R z => ?_
  obtain ⟨ι, F, ρ, M, r, z⟩ := z
  refine ⟨ι, F, ρ, M, r, z.bind.imp fun d M1 ι1 F1 H1 s1 f1 m1 q v hv => ?_⟩
  cases hv with
  | lst a1 r1 =>
    have q : Res X.K cl W ι1 F1 σ H1 (VL.R.ok _ M1) _ := q
    have q := Res.of_ok q f1 m1
    refine ⟨_, _, rfl, .inl ⟨f1.sqL a1, fun sz => q _ (wk_revL a1 r1) ?_⟩⟩
    rw [List.length_reverse, ← r1.length]; exact sz.1 _ _ (f1.sqL a1)
  | tup a1 r1 =>
    have q : Res X.K cl W ι1 F1 σ H1 (VL.R.ok _ M1) _ := q
    have q := Res.of_ok q f1 m1
    have a2 : SqT X.K F1 _ _ := .inl (.inl a1)
    refine ⟨_, _, rfl, .inr ⟨f1.sqT a2, fun sz => q _ (wk_revT a2 r1) ?_⟩⟩
    rw [List.length_reverse, ← r1.length]; exact sz.2 _ _ (f1.sqT a2)
  | _ => exact q.elim
theorem starE_two {a b : Expr} {env : Env} (h1 : nst a = true) (h2 : nst b = true) : starEach [a, b] env = [(false, eval a env), (false, eval b env)] := by
  rw [star_ok h1, star_ok h2]; rfl
theorem starE_one {a : Expr} {env : Env} (h1 : nst a = true) : starEach [a] env = [(false, eval a env)] := by
  rw [star_ok h1]; rfl
theorem s_irng1 (w : XW P nm cl n X sc W) {tg e : Expr} {x : Str} {p pos : Pos} {re : Sl → Mem → R (List D)} (h1 : x = "range") (h2 : glB sc x = true) (hn : nst e = true) (he : PA X [e] (tA X.K cl W re)) :
    PI X tg (.Call (.Name x p) [e] [] pos) (tI X.K cl W fun ρ M => (re ρ M).bind fun ds M1 => R.of (itD .rng1 ds) M1) := by
  obtain ⟨g, o⟩ := w.gl h2
  subst h1
  have hm : X.mg "range" = none := w.fx.blt _ (by decide +kernel)
  refine PI.weak (pi_range1 g hm he (starE_one hn)) fun σ H R z => ?_
  obtain ⟨ι, F, ρ, M, r, z⟩ := z
  refine ⟨ι, F, ρ, M, r, z.bind.imp fun ds M1 ι1 F1 H1 s1 f1 m1 q vs hv => ?_⟩
  obtain ⟨its, e, q⟩ := s_of q f1 m1
  have q := q _ _ _ Stp.refl f1 m1
  unfold itD at e
  split at e <;> try (first | (cases e; done) | (rename_i hk; cases hk; done))
  rename_i i hk
  split at e
  · rename_i hb
    cases e
    cases hv with
    | cons h1 h2 =>
      cases h2
      rw [h1.getInt]
      refine ⟨i, rfl, hb.1, ?_, q _ (wk_rng (by simp)) ?_⟩
      · have := hb.2; rw [sizeLine_eq] at this; omega
      · rw [rngD_length]; have := hb.2; omega
  · cases e
theorem s_irng2 (w : XW P nm cl n X sc W) {tg e e2 : Expr} {x : Str} {p pos : Pos} {re : Sl → Mem → R (List D)} (h1 : x = "range") (h2 : glB sc x = true) (hn : nst e = true) (hn2 : nst e2 = true) (he : PA X [e, e2] (tA X.K cl W re)) :
    PI X tg (.Call (.Name x p) [e, e2] [] pos) (tI X.K cl W fun ρ M => (re ρ M).bind fun ds M1 => R.of (itD .rng2 ds) M1) := by
  obtain ⟨g, o⟩ := w.gl h2
  subst h1
  have hm : X.mg "range" = none := w.fx.blt _ (by decide +kernel)
  refine PI.weak (pi_range2 g hm he (starE_two hn hn2) (starE_one hn2)) fun σ H R z => ?_
  obtain ⟨ι, F, ρ, M, r, z⟩ := z
  refine ⟨ι, F, ρ, M, r, z.bind.imp fun ds M1 ι1 F1 H1 s1 f1 m1 q vs hv => ?_⟩
  obtain ⟨its, e, q⟩ := s_of q f1 m1
  have q := q _ _ _ Stp.refl f1 m1
  unfold itD at e
  split at e <;> try (first | (cases e; done) | (rename_i hk; cases hk; done))
  rename_i i j hk
  split at e
  · rename_i hb
    cases e
    obtain ⟨b1, b2, b3, b4, b5⟩ := hb
    cases hv with
    | cons h1 h2 =>
      cases h2 with
      | cons h2 h3 =>
        cases h3
        rw [h1.getInt, h2.getInt]
        refine ⟨i, j, rfl, ⟨by omega, by omega, by omega, by omega⟩, q _ (wk_rng rfl) ?_⟩
        rw [rngD_length]; omega
  · cases e
/-! ### zip, range with a step -/
theorem wk_zip {H0 : Hp} {xs ys : List V} {as bs : List D} {a b : Addr} (h : SqL K F a xs) (r : Reps K ι F xs as) (h' : SqL K F b ys) (r' : Reps K ι F ys bs) : Wk K (Itz K a b) ι F H0 ((as.zip bs).map fun p => D.tup [p.1, p.2]) := by
  have hl : ((as.zip bs).map fun p => D.tup [p.1, p.2]).length = min xs.length ys.length := by rw [List.length_map, List.length_zip, r.length, r'.length]
  refine ⟨fun i F1 H1 hF f _ hi => ?_, fun i ι1 F1 H1 M1 x H2 hι hF f _ m y hi => ?_, fun F1 H1 hF f _ => ?_⟩
  · rw [hl] at hi
    have h1 : i < xs.length := by omega
    have h2 : i < ys.length := by omega
    exact ⟨xs, ys, xs[i], ys[i], f.sqL (SqL.mono hF h), f.sqL (SqL.mono hF h'), List.getElem?_eq_getElem h1, List.getElem?_eq_getElem h2⟩
  · obtain ⟨T, u, v, rfl, hT, rfl, y1, y2⟩ := y
    have e1 := y1 xs (f.sqL (SqL.mono hF h))
    have e2 := y2 ys (f.sqL (SqL.mono hF h'))
    obtain ⟨d1, g1, q1⟩ := r.getV e1
    obtain ⟨d2, g2, q2⟩ := r'.getV e2
    obtain ⟨s1, f1, m1⟩ := new_ok (o := .tup [u, v]) f m hT
    refine ⟨.tup [d1, d2], _, ?_, s1, f1, m1, rep_new_tup f hT (.cons (q1.mono hι hF) (.cons (q2.mono hι hF) .nil))⟩
    rw [List.getElem?_map, (List.getElem?_zip_eq_some (z := (d1, d2))).mpr ⟨g1, g2⟩]; rfl
  · refine ⟨xs, ys, f.sqL (SqL.mono hF h), f.sqL (SqL.mono hF h'), ?_⟩
    rw [hl]; omega
theorem wk_rngC {H0 : Hp} {lo hi c : Int} {k : Nat} (h : ((hi - lo + c - 1) / c).toNat = k) : Wk K (Itc lo c k) ι F H0 (rngC lo hi c) := by
  have hl : (rngC lo hi c).length = k := by simp [rngC, h]
  refine ⟨fun i F1 H1 hF f _ hi => by rw [hl] at hi; exact hi, fun i ι1 F1 H1 M1 x H2 hι hF f _ m y hi => ?_, fun F1 H1 hF f _ => by rw [hl]; exact Nat.le_refl _⟩
  obtain ⟨rfl, rfl⟩ := y
  rw [hl] at hi
  refine ⟨.int (lo + (i : Nat) * c), F1, ?_, Stp.refl, f, m, .int _⟩
  unfold rngC
  rw [List.getElem?_map, List.getElem?_range (by omega)]
  rfl
theorem starE_three {a b c : Expr} {env : Env} (h1 : nst a = true) (h2 : nst b = true) (h3 : nst c = true) : starEach [a, b, c] env = [(false, eval a env), (false, eval b env), (false, eval c env)] := by
  rw [star_ok h1, star_ok h2, star_ok h3]; rfl
theorem s_irng3 (w : XW P nm cl n X sc W) {tg e e2 e3 : Expr} {x : Str} {p pos : Pos} {re : Sl → Mem → R (List D)} (h1 : x = "range") (h2 : glB sc x = true) (hn : nst e = true) (hn2 : nst e2 = true) (hn3 : nst e3 = true) (he : PA X [e, e2, e3] (tA X.K cl W re)) :
    PI X tg (.Call (.Name x p) [e, e2, e3] [] pos) (tI X.K cl W fun ρ M => (re ρ M).bind fun ds M1 => R.of (itD .rng3 ds) M1) := by
  obtain ⟨g, o⟩ := w.gl h2
  subst h1
  have hm : X.mg "range" = none := w.fx.blt _ (by decide +kernel)
  refine PI.weak (pi_range3 g hm he (by rw [starE_three hn hn2 hn3, starE_two hn2 hn3]) (by rw [starE_two hn2 hn3]; rfl)) fun σ H R z => ?_
  obtain ⟨ι, F, ρ, M, r, z⟩ := z
  refine ⟨ι, F, ρ, M, r, z.bind.imp fun ds M1 ι1 F1 H1 s1 f1 m1 q vs hv => ?_⟩
  obtain ⟨its, e, q⟩ := s_of q f1 m1
  have q := q _ _ _ Stp.refl f1 m1
  unfold itD at e
  split at e <;> try (first | (cases e; done) | (rename_i hk; cases hk; done))
  rename_i i j c hk
  split at e
  · rename_i hb
    cases e
    obtain ⟨b1, b2, b3, b4, b5, b6, b7⟩ := hb
    cases hv with
    | cons h1 h2 =>
      cases h2 with
      | cons h2 h3 =>
        cases h3 with
        | cons h3 h4 =>
          cases h4
          rw [h1.getInt, h2.getInt, h3.getInt]
          have e0 : ((j - i + c - 1) / c).toNat ≤ sizeLine := by
            by_cases hle : j - i ≤ 0
            · have : (j - i + c - 1) / c < 1 := Int.ediv_lt_of_lt_mul b5 (by omega)
              omega
            · have : (j - i + c - 1) / c ≤ j - i := by
                have : (j - i + c - 1) / c < (j - i) + 1 := Int.ediv_lt_of_lt_mul b5 (by
                  have : (j - i + 1) * c = (j - i) * c + c := by rw [Int.add_mul, Int.one_mul]
                  have h2 : (j - i) * 1 ≤ (j - i) * c := Int.mul_le_mul_of_nonneg_left (by omega) (by omega)
                  omega)
                omega
              omega
          have e1 : Builtin.Range.rangeSize i j c = (((j - i + c - 1) / c).toNat : Int) := by
            unfold Builtin.Range.rangeSize
            rw [if_pos (by omega)]
            split
            · have e : j - i + c - 1 = (j - i - 1) + 1 * c := by omega
              rw [e, Int.add_mul_ediv_right _ _ (by omega)]
              have : 0 ≤ (j - i - 1) / c := Int.ediv_nonneg (by omega) (by omega)
              omega
            · have : (j - i + c - 1) / c < 1 := Int.ediv_lt_of_lt_mul b5 (by omega)
              omega
          refine ⟨i, j, c, _, rfl, ⟨by omega, by omega, ?_, e1⟩, q _ (wk_rngC rfl) ?_⟩
          · unfold Builtin.Range.small
            rw [e1]
            simp only [Builtin.Range.rangeFitsLong, Bool.and_eq_true, Bool.or_eq_true, decide_eq_true_eq, beq_iff_eq]
            rw [sizeLine_eq] at e0
            refine ⟨by omega, .inr ?_⟩
            rw [if_pos (by omega)]
            simp only [Bool.and_eq_true, decide_eq_true_eq]
            omega
          · simp only [rngC, List.length_map, List.length_range]; exact e0
  · cases e
theorem s_izip (w : XW P nm cl n X sc W) {e e2 : Expr} {elts : List Expr} {kk : Nat} {tpos : Pos} {x : Str} {p pos : Pos} {re : Sl → Mem → R (List D)} (h1 : x = "zip") (h2 : glB sc x = true) (hn : nst e = true) (hn2 : nst e2 = true) (he : PA X [e, e2] (tA X.K cl W re)) :
    PI X (.Tuple elts kk tpos) (.Call (.Name x p) [e, e2] [] pos) (tI X.K cl W fun ρ M => (re ρ M).bind fun ds M1 => R.of (itD .zip ds) M1) := by
  obtain ⟨g, o⟩ := w.gl h2
  subst h1
  have hm : X.mg "zip" = none := w.fx.blt _ (by decide +kernel)
  have hz := PI.sized (pi_zip (elts := elts) (kk := kk) (tpos := tpos) (p := p) (pos := pos) g hm he (by rw [starE_two hn hn2, starE_one hn2]) (by rw [starE_one hn2]; rfl)) fun σ H R R' im z => by
    obtain ⟨ι, F, ρ, M, r, z⟩ := z
    refine ⟨ι, F, ρ, M, r, z.imp fun d M1 ι1 F1 H1 s1 f1 m1 q v hv => ?_⟩
    obtain ⟨a, b, xs, ys, e, q1, q2, q⟩ := q v hv
    exact ⟨a, b, xs, ys, e, q1, q2, im _ _ q⟩
  refine PI.weak hz fun σ H R z => ?_
  obtain ⟨ι, F, ρ, M, r, z⟩ := z
  refine ⟨ι, F, ρ, M, r, z.bind.imp fun ds M1 ι1 F1 H1 s1 f1 m1 q vs hv => ?_⟩
  obtain ⟨its, e, q⟩ := s_of q f1 m1
  have q := q _ _ _ Stp.refl f1 m1
  unfold itD at e
  split at e <;> try (first | (cases e; done) | (rename_i hk; cases hk; done))
  cases e
  cases hv with
  | cons h1 h2 =>
    cases h2 with
    | cons h2 h3 =>
      cases h3
      cases h1 with
      | lst a1 r1 =>
        cases h2 with
        | lst a2 r2 =>
          refine ⟨_, _, _, _, rfl, f1.sqL a1, f1.sqL a2, fun sz => q _ (wk_zip a1 r1 a2 r2) ?_⟩
          rw [List.length_map, List.length_zip, ← r1.length]
          exact Nat.le_trans (Nat.min_le_left _ _) (sz.1 _ _ (f1.sqL a1))
theorem tupE_ok {tg : Expr} (h : tupE tg = true) : ∃ elts kk tpos, tg = .Tuple elts kk tpos := by
  cases tg <;> first | (cases h; done) | exact ⟨_, _, _, rfl⟩
/-- all walks that a name makes -/
theorem walk_call (w : XW P nm cl n X sc W) {k : ItK} {args : List Ex} {tg : Expr} {x : Str} {es : List Expr} {p pos : Pos} (hg : glB sc x = true) (hb : itB k x es.length tg = true) (hm : mEs X.N nm args sc es = true)
    (hp : PA X es (tA X.K cl W (evEs (cfgN P n) args))) (ha : ∀ a, args = [a] → ∀ e, mE X.N nm a sc e = true → PE X e (tE X.K cl W (evE (cfgN P n) a))) :
    ∃ ri, PI X tg (.Call (.Name x p) es [] pos) (tI X.K cl W ri) ∧ ∀ ρ M, ri ρ M = (evEs (cfgN P n) args ρ M).bind fun ds M1 => R.of (itD k ds) M1 := by
  have n1 : ∀ {e : Expr} {es1 : List Expr} {as : List Ex}, mEs X.N nm as sc (e :: es1) = true → nst e = true ∧ ∃ a as', as = a :: as' ∧ mE X.N nm a sc e = true ∧ mEs X.N nm as' sc es1 = true := fun {e es1 as} h => by
    cases as with
    | nil => simp [mEs] at h
    | cons a as => simp only [mEs, Bool.and_eq_true] at h; exact ⟨h.1.1, a, as, rfl, h.1.2, h.2⟩
  have n0 : ∀ {as : List Ex}, mEs X.N nm as sc [] = true → as = [] := fun {as} h => by
    cases as with
    | nil => rfl
    | cons a as => simp [mEs] at h
  cases k with
  | seq => cases hb
  | enum => cases hb
  | keys => cases hb
  | rng1 =>
    simp only [itB, Bool.and_eq_true, decide_eq_true_eq] at hb
    match es, hb, hm, hp with
    | [e1], hb, hm, hp => exact ⟨_, s_irng1 w hb.1 hg (n1 hm).1 hp, fun ρ M => rfl⟩
    | [], hb, _, _ => exact absurd hb.2 (by simp)
    | _ :: _ :: _, hb, _, _ => exact absurd hb.2 (by simp)
  | rng2 =>
    simp only [itB, Bool.and_eq_true, decide_eq_true_eq] at hb
    match es, hb, hm, hp with
    | [e1, e2], hb, hm, hp =>
      obtain ⟨k1, a, as, rfl, k2, k3⟩ := n1 hm
      exact ⟨_, s_irng2 w hb.1 hg k1 (n1 k3).1 hp, fun ρ M => rfl⟩
    | [], hb, _, _ => exact absurd hb.2 (by simp)
    | [_], hb, _, _ => exact absurd hb.2 (by simp)
    | _ :: _ :: _ :: _, hb, _, _ => exact absurd hb.2 (by simp)
  | rng3 =>
    simp only [itB, Bool.and_eq_true, decide_eq_true_eq] at hb
    match es, hb, hm, hp with
    | [e1, e2, e3], hb, hm, hp =>
      obtain ⟨k1, a, as, rfl, k2, k3⟩ := n1 hm
      obtain ⟨k4, a2, as2, rfl, k5, k6⟩ := n1 k3
      exact ⟨_, s_irng3 w hb.1 hg k1 k4 (n1 k6).1 hp, fun ρ M => rfl⟩
    | [], hb, _, _ => exact absurd hb.2 (by simp)
    | [_], hb, _, _ => exact absurd hb.2 (by simp)
    | [_, _], hb, _, _ => exact absurd hb.2 (by simp)
    | _ :: _ :: _ :: _ :: _, hb, _, _ => exact absurd hb.2 (by simp)
  | zip =>
    simp only [itB, Bool.and_eq_true, decide_eq_true_eq] at hb
    obtain ⟨elts, kk, tpos, rfl⟩ := tupE_ok hb.2
    match es, hb, hm, hp with
    | [e1, e2], hb, hm, hp =>
      obtain ⟨k1, a, as, rfl, k2, k3⟩ := n1 hm
      exact ⟨_, s_izip w hb.1.1 hg k1 (n1 k3).1 hp, fun ρ M => rfl⟩
    | [], hb, _, _ => exact absurd hb.1.2 (by simp)
    | [_], hb, _, _ => exact absurd hb.1.2 (by simp)
    | _ :: _ :: _ :: _, hb, _, _ => exact absurd hb.1.2 (by simp)
  | rev =>
    simp only [itB, Bool.and_eq_true, decide_eq_true_eq] at hb
    match es, hb, hm, hp with
    | [e1], hb, hm, hp =>
      obtain ⟨k1, a, as, rfl, k2, k3⟩ := n1 hm
      have := n0 k3
      subst this
      refine ⟨_, s_irev w hb.1 hg k1 (ha a rfl e1 k2), fun ρ M => ?_⟩
      simp only [evEs, R.bind_assoc, R.bind_ok]
    | [], hb, _, _ => exact absurd hb.2 (by simp)
    | _ :: _ :: _, hb, _, _ => exact absurd hb.2 (by simp)
/-! ### a walk over a dict that is locked -/
theorem repK_fstT : ∀ {kvs : List (List Key × V)} {kds : List (D × D)}, RepK K ι F (kvs.map fun p => (tkeyD p.1, p.2)) kds → kds.map (·.1) = kvs.map fun p => tkeyD p.1
  | [], _, h => by cases h; rfl
  | p :: kvs, _, h => by
    cases h with
    | cons h1 h2 => simp only [List.map_cons, repK_fstT h2]
theorem some_ne {a : Addr} {u : HO} (h : F a = some u) : F a ≠ none := by rw [h]; exact fun z => by cases z
theorem wk_keysK {H0 : Hp} {d : Addr} {o : Obj} {kvs : List (Key × V)} {kds : List (D × D)} (h : F d = some (.dK kvs)) (r : RepK K ι F (kvs.map fun p => (keyD p.1, p.2)) kds) (hl : H0 d = some (.frz o (.dK kvs))) : Wk K (Itk d o kvs) ι F H0 (kds.map (·.1)) := by
  have rr := repK_keys r
  have len : (kds.map (·.1)).length = kvs.length := by rw [← rr.length, List.length_map]
  refine ⟨fun i F1 H1 hF f k hi => ⟨k d _ (some_ne h) hl, by rw [← len]; exact hi⟩, fun i ι1 F1 H1 M1 x H2 hι hF f k m y hi => ?_, fun F1 H1 hF f k => ⟨k d _ (some_ne h) hl, by rw [len]; exact Nat.le_refl _⟩⟩
  obtain ⟨rfl, q, v, e, rfl⟩ := y
  obtain ⟨e1, e2, r1⟩ := rr.getV (i := i) (v := kV q) (by rw [List.getElem?_map, e]; rfl)
  exact ⟨e1, F1, e2, Stp.refl, f, m, r1.mono hι hF⟩
theorem wk_keysT {H0 : Hp} {d : Addr} {o : Obj} {kvs : List (List Key × V)} {kds : List (D × D)} (h : F d = some (.dT kvs)) (r : RepK K ι F (kvs.map fun p => (tkeyD p.1, p.2)) kds) (hl : H0 d = some (.frz o (.dT kvs))) : Wk K (Itkt d o kvs) ι F H0 (kds.map (·.1)) := by
  have rr := repK_fstT r
  have len : (kds.map (·.1)).length = kvs.length := by rw [rr, List.length_map]
  refine ⟨fun i F1 H1 hF f k hi => ⟨k d _ (some_ne h) hl, by rw [← len]; exact hi⟩, fun i ι1 F1 H1 M1 x H2 hι hF f k m y hi => ?_, fun F1 H1 hF f k => ⟨k d _ (some_ne h) hl, by rw [len]; exact Nat.le_refl _⟩⟩
  obtain ⟨rfl, q, v, a, e, rfl, ha⟩ := y
  obtain ⟨F2, s2, f2, m2, e2⟩ := tup_in f m ha
  exact ⟨tkeyD q, F2, by rw [rr, List.getElem?_map, e]; rfl, s2, f2, m2, .tup e2 (keyVs_rep q)⟩
def SizedD (H : Hp) : Prop := (∀ a o kvs, H a = some (.frz o (.dK kvs)) → kvs.length ≤ sizeLine) ∧ ∀ a o kvs, H a = some (.frz o (.dT kvs)) → kvs.length ≤ sizeLine
theorem PI.sizedD {X : Cx} {tg e : Expr} {t : TI} (h : PI X tg e t) : PI X tg e (fun σ H R => t σ H fun J H1 => SizedD H1 → R J H1) := by
  refine ⟨fun pins s σ H R I z => ?_⟩
  refine thn (h.run pins s σ H _ I z) fun v s1 h1 => thn h1 fun itv s2 ⟨it, fp, tn, J, H', e, I2, T, t0, f, q⟩ => ?_
  exact ⟨it, fp, tn, J, H', e, I2, T, t0, f, q ⟨fun a o xs h => let ⟨_, z, _⟩ := I2.hok a _ h; z, fun a o xs h => let ⟨_, z, _⟩ := I2.hok a _ h; z⟩⟩
/-- the dict of slot i is locked -/
def LkK (i : Nat) (σ : L2.St) (F H : Hp) (ρ : Sl) : Prop := ∃ t kds d o u, ρ[i]? = some (.fz (.dic t kds)) ∧ σ[i]? = some (some (.ref d)) ∧ F d = some u ∧ H d = some (.frz o u)
def tIk (K : PySem.W.Frag) (i : Nat) : TI := fun σ H R => ∃ ι F ρ M t kds, SR K ι F ρ M σ H ∧ ρ[i]? = some (.fz (.dic t kds)) ∧ LkK i σ F H ρ ∧ ∀ J, Wk K J ι F H (kds.map (·.1)) → (kds.map (·.1)).length ≤ sizeLine → R J H
theorem s_ikeys (w : XW P nm cl n X sc W) {i : Nat} {tg e : Expr} (h : mVar X.N sc i e = true) : PI X tg e (tIk X.K i) := by
  unfold mVar at h
  split at h
  · simp only [Bool.and_eq_true, decide_eq_true_eq] at h
    refine PI.weak (PI.sizedD (pi_keys (s_var w h.1 h.2))) fun σ H R z => ?_
    obtain ⟨ι, F, ρ, M, t, kds, r, ei, ⟨t', kds', d, o, u, ei', es, eF, eH⟩, z⟩ := z
    rw [ei] at ei'; cases ei'
    obtain ⟨v, e1, rv⟩ := r.fz i _ ei
    rw [es] at e1; cases e1
    refine ⟨.ref d, es, d, o, rfl, ?_⟩
    cases rv with
    | dic at_ rk =>
      cases t with
      | false =>
        obtain ⟨kvs, e3, rfl⟩ := at_.k
        rw [eF] at e3; cases e3
        refine .inl ⟨kvs, eH, fun sz => z _ (wk_keysK eF rk eH) ?_⟩
        have := (repK_keys rk).length
        rw [← this, List.length_map]
        exact sz.1 _ _ _ eH
      | true =>
        obtain ⟨kvs, e3, rfl⟩ := at_.t
        rw [eF] at e3; cases e3
        refine .inr ⟨kvs, eH, fun sz => z _ (wk_keysT eF rk eH) ?_⟩
        rw [repK_fstT rk, List.length_map]
        exact sz.2 _ _ _ eH
  · cases h
/-! ### locking -/
theorem FSub.lock {d : Addr} {o : Obj} {u : HO} (f : FSub F H) (e : F d = some u) (hd : isDicO u = true) : FSub F (upd H d (.frz o u)) := fun a w h => by
  by_cases ea : a = d
  · subst ea; rw [e] at h; cases h; exact .inr ⟨hd, o, upd_same⟩
  · rw [upd_ne ea]; exact f a w h
theorem MemRep.ne {M : Mem} {a b : Addr} (m : MemRep K ι F M H) (h : a ∈ ι) (e : F b ≠ none) : a ≠ b := fun z => e (by rw [← z]; exact (m.there h).2)
theorem MemRep.at_upd {M : Mem} {d : Addr} {o : HO} (m : MemRep K ι F M H) (e : F d ≠ none) : MemRep K ι F M (upd H d o) :=
  ⟨m.len, m.nd, fun n a mo h1 h2 => let ⟨q1, q2⟩ := m.at_ n a mo h1 h2; ⟨q1, q2.mono (fun _ _ h => h) (fun _ _ h => h) fun u h => by rw [upd_ne (m.ne (List.mem_of_getElem? h1) e)]; exact h⟩⟩
theorem SRO.lock {O : Addr → Prop} {d : Addr} {o : Obj} {u : HO} (r : SRO K ι F O ρ M σ H) (e : F d = some u) (hd : isDicO u = true) : SRO K ι F O ρ M σ (upd H d (.frz o u)) := by
  have ne : ∀ a, O a → a ≠ d := fun a h z => by
    have := (r.own a h).1
    rw [z, e] at this; cases this
  obtain ⟨S, h1, h2, h3⟩ := r.ow
  exact ⟨r.sub.lock e hd, r.mem.at_upd (by rw [e]; exact fun z => by cases z), r.len, r.fz, fun a h => let ⟨q1, q2, q3⟩ := r.own a h; ⟨q1, q2, q3.upd (ne a h)⟩, S, fun i m dd h => let ⟨v, q1, q2⟩ := h1 i m dd h; ⟨v, q1, q2.mono (fun _ _ h => h) (fun _ _ h => h) fun a ha => ⟨ha, fun w hw => by rw [upd_ne (ne a (h2 i a ha))]; exact hw⟩⟩, h2, h3⟩
/-- .. and what was done under the lock is done without -/
theorem Stp.unlock {ι' : List Addr} {F' H' : Hp} {M : Mem} {d : Addr} {o : Obj} {u : HO} (m : MemRep K ι F M H) (e : F d = some u) (eH : H d = some u) (s : Stp ι F (upd H d (.frz o u)) ι' F' H') : H' d = some (.frz o u) ∧ Stp ι F H ι' F' (upd H' d u) := by
  have hι : d ∉ ι := fun z => by
    have := (m.there z).2
    rw [e] at this; cases this
  have nn : ∀ a, upd H d (.frz o u) a = none ↔ H a = none := fun a => by
    by_cases ea : a = d
    · subst ea; rw [upd_same, eH]; simp
    · rw [upd_ne ea]
  refine ⟨s.keep d _ upd_same hι, ?_, s.subF, fun a l n0 e0 => ?_, fun a w h n0 => ?_, fun a h => ?_⟩
  · obtain ⟨mm, e1, e2⟩ := s.pre
    exact ⟨mm, e1, fun a ha => (nn a).mp (e2 a ha)⟩
  · have ea : a ≠ d := fun z => by rw [z, e] at e0; cases e0
    exact s.newF a (l.upd ea) n0 e0
  · by_cases ea : a = d
    · subst ea; rw [eH] at h; cases h; exact upd_same
    · rw [upd_ne ea]; exact s.keep a w (by rw [upd_ne ea]; exact h) n0
  · by_cases ea : a = d
    · subst ea; rw [upd_same]; exact fun z => by cases z
    · rw [upd_ne ea]; exact s.live a fun z => h ((nn a).mp z)
theorem FSub.unlock {d : Addr} {u : HO} (f : FSub F H) (e : F d = some u) : FSub F (upd H d u) := fun a w h => by
  by_cases ea : a = d
  · subst ea; rw [e] at h; cases h; exact .inl upd_same
  · rw [upd_ne ea]; exact f a w h
theorem isDic_mut {u : HO} (h : isDicO u = true) : Mut (some u) := by
  cases u <;> first | (cases h; done) | trivial
/-! ### comprehensions -/
theorem out_upd {D : Addr} {o : HO} (f : FSub F H) (m : MemRep K ι F M H) (hF : F D = none) (hi : D ∉ ι) : FSub F (upd H D o) ∧ MemRep K ι F M (upd H D o) := by
  have ne : ∀ a u, F a = some u → a ≠ D := fun a u h => ne_of_none h hF
  refine ⟨fun a u h => by rw [upd_ne (ne a u h)]; exact f a u h, m.len, m.nd, fun k a mo h1 h2 => ?_⟩
  obtain ⟨q, r⟩ := m.at_ k a mo h1 h2
  have na : a ≠ D := fun e => hi (by rw [← e]; exact List.mem_of_getElem? h1)
  exact ⟨q, r.mono (fun _ _ h => h) (fun _ _ h => h) fun u h => by rw [upd_ne na]; exact h⟩
/-- what stands at a place of its own is left -/
theorem Stp.own {ι1 : List Addr} {F1 H1 : Hp} {D : Addr} {o : HO} (s : Stp ι F H ι1 F1 H1) (h : H D = some o) (hF : F D = none) (hi : D ∉ ι) (l : ldO o = true := by rfl) : H1 D = some o ∧ F1 D = none ∧ D ∉ ι1 :=
  ⟨s.keep D o h hi, s.newF D ⟨⟨o, h, l⟩⟩ hi hF, s.nin hi (by rw [h]; exact fun z => by cases z)⟩
theorem Stp.upd {ι1 : List Addr} {F1 H1 : Hp} {D : Addr} {o : HO} (s : Stp ι F H ι1 F1 H1) (hD : H D = none) : Stp ι F H ι1 F1 (L2.upd H1 D o) := by
  refine ⟨s.pre, s.subF, s.newF, fun a u h n => ?_, fun a h => ?_⟩
  · rw [upd_ne (ne_of_none h hD)]; exact s.keep a u h n
  · by_cases e : a = D
    · subst e; exact absurd hD h
    · rw [upd_ne e]; exact s.live a h
def compF (c : Cfg) (elt : Ex) (p : Pt) (conds : List Ex) (own : List Nat) (ρ : Sl) : D → Mem → R (Option D) := fun d M3 => match bindP p d (killS ρ own) with
  | some ρ' => (evAll c conds ρ' M3).bind fun b M4 => if b = true then (evE c elt ρ' M4).bind fun y M5 => .ok (some y) M5 else .ok none M4
  | none => .st
theorem compL_cons_ok {α : Type} {f : D → Mem → R (Option α)} {d : D} {ds : List D} {M M3 : Mem} {rs : List α} (h : compL f (d :: ds) M = .ok rs M3) : ∃ o M1 r, f d M = .ok o M1 ∧ compL f ds M1 = .ok r M3 ∧ rs = (match o with | some y => y :: r | none => r) := by
  simp only [compL] at h
  cases e1 : f d M with
  | ok o M1 =>
    rw [e1, R.bind_ok] at h
    cases e2 : compL f ds M1 with
    | ok r M2 => rw [e2, R.bind_ok] at h; cases h; exact ⟨o, M1, r, rfl, e2, rfl⟩
    | ex _ _ => rw [e2] at h; cases h
    | st => rw [e2] at h; cases h
  | ex _ _ => rw [e1] at h; cases h
  | st => rw [e1] at h; cases h
/-- all of a comprehension but its own syntax -/
structure CompAt (K : PySem.W.Frag) (c : Cfg) (f : D → Mem → R (Option D)) (items : List D) (rs : List D) (M3 : Mem) (ι2 : List Addr) (F2 H2 : Hp) (D : Addr) (i : Nat) (H : Hp) : Prop where
  ex : ∃ ι F Mi vs acc rest, Stp ι2 F2 H2 ι F H ∧ FSub F H ∧ MemRep K ι F Mi H ∧ H D = some (.lst vs) ∧ Reps K ι F vs acc ∧ F D = none ∧ D ∉ ι ∧ acc.length ≤ i ∧ compL f (items.drop i) Mi = .ok rest M3 ∧ acc ++ rest = rs
theorem comp_run {elt : Ex} {p : Pt} {conds : List Ex} {own : List Nat} {items rs : List D} {M3 : Mem} {ι2 : List Addr} {F2 H2 : Hp} {J : It} {D : Addr} {Q : VK} {Mz : Mem} {te : TE} {tt : TT}
    (r : SR K ι2 F2 ρ Mz σ H2) (wk : Wk K J ι2 F2 H2 items) (hl : items.length ≤ sizeLine) (hD : H2 D = none) (he : compL (compF c elt p conds own ρ) items Mz = .ok rs M3) (hp : ∀ i ∈ ptV p, i ∈ own)
    (hte : ∀ σ H Q, tE K cl (fun _ _ _ _ => False) (evE c elt) σ H Q → te σ H Q) (htt : ∀ σ H Q, tT K cl (fun _ _ _ _ => False) (evAll c conds) σ H Q → tt σ H Q)
    (q : ∀ ι' F' H', Stp ι2 F2 H2 ι' F' H' → FSub F' H' → MemRep K ι' F' M3 H' → OwRep K ι' F' H' D (.lst rs) → F' D = none → D ∉ ι' → H2 D = none → Q (.ref D) H') :
    ∃ W : Nat → Nat → Hp → Prop, (∃ m, W 0 m (upd H2 D (.lst []))) ∧ ∀ i m H, W i m H →
      (J.stop i H ∧ Q (.ref D) H) ∨ (J.go i H ∧ ∃ Nx : Hp → Prop, (∀ H', Nx H' → ∃ m', m' < m ∧ W (i + 1) m' H') ∧ ∀ x H', J.yld i H x H' → tG K p x (wipe σ own) H' fun σ2 H2 => wipe σ2 own = wipe σ own ∧ tt σ2 H2 fun b H3 =>
        if b = true then te σ2 H3 fun y H4 => ∃ acc, H4 D = some (.lst acc) ∧ acc.length < sizeLine ∧ Nx (upd H4 D (.lst (acc ++ [y]))) else Nx H3) := by
  have hF2 : F2 D = none := by
    cases e : F2 D with
    | none => rfl
    | some u => exact absurd hD (r.sub.isSome e)
  have hi2 : D ∉ ι2 := fun h => (r.mem.there h).1 hD
  refine ⟨fun i m H => m = items.length - i ∧ i ≤ items.length ∧ CompAt K c (compF c elt p conds own ρ) items rs M3 ι2 F2 H2 D i H, ⟨items.length, rfl, Nat.zero_le _, ?_⟩, ?_⟩
  · obtain ⟨a1, a2⟩ := out_upd (o := .lst []) r.sub r.mem hF2 hi2
    exact ⟨ι2, F2, Mz, [], [], rs, Stp.refl.upd hD, a1, a2, upd_same, .nil, hF2, hi2, Nat.le_refl _, by simpa using he, rfl⟩
  · rintro i m H ⟨rfl, hi, ⟨ι, F, Mi, vs, acc, rest, st, f, mr, hd, hv, hF, hn, ha, hc, er⟩⟩
    by_cases hlt : i < items.length
    · refine .inr ⟨wk.go i F H st.subF f (st.kp r.mem) hlt, fun H' => CompAt K c (compF c elt p conds own ρ) items rs M3 ι2 F2 H2 D (i + 1) H', fun H' h => ⟨items.length - (i + 1), by omega, rfl, by omega, h⟩, fun x H' y => ?_⟩
      obtain ⟨d, F', e1, s1, f1, m1, rx⟩ := wk.yld i ι F H Mi x H' st.ix st.subF f (st.kp r.mem) mr y hlt
      obtain ⟨d1, d2, d3⟩ := s1.own hd hF hn
      have edrop : items.drop i = d :: items.drop (i + 1) := by
        rw [List.drop_eq_getElem_cons hlt]
        rw [List.getElem?_eq_getElem hlt] at e1
        cases e1; rfl
      rw [edrop] at hc
      obtain ⟨o, M1, rr, c1, c2, c3⟩ := compL_cons_ok hc
      unfold compF at c1
      split at c1
      · rename_i ρ' eb
        obtain ⟨O, r1⟩ : SR K ι F' ρ Mi σ H' := (r.step st f mr).step s1 f1 m1
        refine ⟨ι, F', O, killS ρ own, Mi, d, ρ', r1.wipe own, rx, eb, fun σ' r2 out => ⟨out.wipe hp, htt _ _ _ ⟨ι, F', ρ', Mi, ⟨O, r2⟩, ?_⟩⟩⟩
        cases ec : evAll c conds ρ' Mi with
        | ok b M4 =>
          rw [ec, R.bind_ok] at c1
          intro ι4 F4 H4 s4 f4 m4
          obtain ⟨g1, g2, g3⟩ := s4.own d1 d2 d3
          cases b with
          | true =>
            rw [if_pos rfl] at c1 ⊢
            refine hte _ _ _ ⟨ι4, F4, ρ', M4, ⟨O, r2.step s4 f4 m4⟩, ?_⟩
            cases ee : evE c elt ρ' M4 with
            | ok y M5 =>
              rw [ee, R.bind_ok] at c1
              cases c1
              intro ι5 F5 H5 s5 f5 m5 v hv5
              obtain ⟨k1, k2, k3⟩ := s5.own g1 g2 g3
              have hvs : Reps K ι5 F5 vs acc := s5.reps (s4.reps (s1.reps hv))
              refine ⟨vs, k1, by rw [hvs.length]; omega, ?_⟩
              obtain ⟨a1, a2⟩ := out_upd (o := .lst (vs ++ [v])) f5 m5 k2 k3
              exact ⟨ι5, F5, M1, vs ++ [v], acc ++ [y], rr, (((st.trans s1).trans s4).trans s5).upd hD, a1, a2, upd_same, hvs.append (.cons hv5 .nil), k2, k3, by simp; omega, c2, by rw [← er, c3]; simp⟩
            | ex _ _ => rw [ee] at c1; cases c1
            | st => rw [ee] at c1; cases c1
          | false =>
            rw [if_neg (by decide)] at c1 ⊢
            cases c1
            exact ⟨ι4, F4, M1, vs, acc, rr, (st.trans s1).trans s4, f4, m4, g1, s4.reps (s1.reps hv), g2, g3, by omega, c2, by rw [← er, c3]⟩
        | ex _ _ => rw [ec] at c1; cases c1
        | st => rw [ec] at c1; cases c1
      · cases c1
    · have e : i = items.length := by omega
      subst e
      refine .inl ⟨wk.stop F H st.subF f (st.kp r.mem), ?_⟩
      rw [List.drop_length] at hc
      simp only [compL] at hc
      cases hc
      rw [List.append_nil] at er
      subst er
      exact q ι F H st f mr ⟨vs, hd, hv⟩ hF hn hD
end
end
end VL
/-! V6: all expressions -/
namespace VL
open PySem PySem.Spec PyProof.Rows L2
section
variable {P : Prog} {nm : Nms} {cl : Nat → Value} {n : Nat}
theorem lookup_relS_free {sc : Scope} : ∀ {names : List (Str × NameKind)} {x : Str}, names.lookup x = some .free →
    (names.map fun (n, k) => if (k == NameKind.free && sc.kind == .function && sc.names.lookup n == some .cell) then (n, NameKind.cell) else (n, k)).lookup x = some .cell ∨
    (names.map fun (n, k) => if (k == NameKind.free && sc.kind == .function && sc.names.lookup n == some .cell) then (n, NameKind.cell) else (n, k)).lookup x = some .free
  | [], _, h => by simp at h
  | (n, k₀) :: r, x, h => by
    have ih := @lookup_relS_free sc r x
    show List.lookup x ((if (k₀ == NameKind.free && sc.kind == .function && sc.names.lookup n == some .cell) = true then (n, NameKind.cell) else (n, k₀)) :: (r.map _)) = some .cell ∨ List.lookup x ((if (k₀ == NameKind.free && sc.kind == .function && sc.names.lookup n == some .cell) = true then (n, NameKind.cell) else (n, k₀)) :: (r.map _)) = some .free
    cases hx : x == n with
    | true =>
      simp only [List.lookup_cons, hx] at h
      cases h
      split
      · exact .inl (by simp only [List.lookup_cons, hx])
      · exact .inr (by simp only [List.lookup_cons, hx])
    | false =>
      simp only [List.lookup_cons, hx] at h
      split <;> (simp only [List.lookup_cons, hx]; exact ih h)
theorem XW.blk {X : Cx} {sc scope : Scope} {W : WXX} (w : XW P nm cl n X sc W) (s : Shared) (H : Hp) (C : Addr) (cs : List (Str × Addr)) (fp : List Addr) :
    XW P nm cl n (X.blk s H scope (compEnvC scope cs C X.env) fp) scope (fun _ _ _ _ => False) where
  tk := takes0
  calm := w.calm
  nd := w.nd
  room := w.room
  names := fun x k h hk => lookup_relS_keep hk h
  free := fun x h => lookup_relS_free h
  fnc := fun x h => by show (scope.names.lookup x == some .cell) = true; rw [h]; rfl
  fx := w.fx
theorem blk_ok {X : Cx} {sc scope : Scope} {W : WXX} {own : List (Str × Nat)} (w : XW P nm cl n X sc W) (h : blkC X.N sc scope own = true) : BlkOk X.N X.env.scope scope own := by
  have b := blkOk_by h
  refine ⟨b.kind, b.uniq, b.ix, fun y hy e => ?_, b.own⟩
  rcases b.free y hy e with z | z
  · exact .inl (w.names _ _ z (by decide))
  · exact w.free _ z
variable {W : WXX} {X : Cx} {sc : Scope}
def ttOf (K : PySem.W.Frag) (cl : Nat → Value) (W : WXX) (c : Cfg) : List Ex → TT
  | [] => tYes
  | x :: _ => tT K cl W (evT c x)
theorem s_pts {c : Cfg} {conds : List Ex} {ifs : List Expr} (hl : conds.length ≤ 1) (hi : conds.length = ifs.length) (h : ∀ x e, conds = [x] → ifs = [e] → PT X e (tT X.K cl W (evT c x))) : PTs X ifs (ttOf X.K cl W c conds) := by
  cases conds with
  | nil =>
    cases ifs with
    | cons _ _ => simp at hi
    | nil => exact pts_nil
  | cons x xs =>
    cases xs with
    | cons _ _ => simp at hl
    | nil =>
      cases ifs with
      | nil => simp at hi
      | cons e es =>
        cases es with
        | cons _ _ => simp at hi
        | nil => exact pts_one (h x e rfl rfl)
theorem tt_imp {K : PySem.W.Frag} {c : Cfg} {conds : List Ex} (hl : conds.length ≤ 1) (σ : L2.St) (H : Hp) (Q : Bool → Hp → Prop) (z : tT K cl W (evAll c conds) σ H Q) : ttOf K cl W c conds σ H Q := by
  cases conds with
  | nil =>
    obtain ⟨ι, F, ρ, M, r, z⟩ := z
    simp only [evAll] at z
    exact Res.of_ok z r.sub r.mem
  | cons x xs =>
    cases xs with
    | cons _ _ => simp at hl
    | nil =>
      obtain ⟨ι, F, ρ, M, r, z⟩ := z
      refine ⟨ι, F, ρ, M, r, ?_⟩
      simp only [evAll] at z
      unfold evT
      have key : Res K cl W ι F σ H ((evE c x ρ M).bind fun d M1 => VL.R.of (truth d) M1) fun b _ _ _ H' => Q b H' := by
        cases ee : evE c x ρ M with
        | ok d M1 =>
          rw [ee] at z
          rw [R.bind_ok] at z ⊢
          cases et : truth d with
          | none => rw [et] at z; exact z.elim
          | some t =>
            rw [et] at z
            cases t with
            | true => exact z
            | false => exact z
        | ex c' M1 => rw [ee] at z; exact z
        | st => rw [ee] at z; exact z.elim
      exact key
theorem set_ok {e : Expr} {env : Env} (h : ∀ a b c, e ≠ .Set a b c) : ∀ x, foldedSetIterable e env x = pure x := by
  intro x
  cases e <;> first | rfl | exact absurd rfl (h _ _ _)
/-- the two sides of an expression: as a value, as a test -/
def SE (P : Prog) (n : Nat) (cl : Nat → Value) (W : WXX) (X : Cx) (x : Ex) (e : Expr) : Prop :=
  PE X e (tE X.K cl W (evE (cfgN P n) x)) ∧ (tstB x = true → PT X e (tT X.K cl W (evT (cfgN P n) x)))
theorem SE.rd (w : XW P nm cl n X sc W) {x : Ex} {e : Expr} (h : PE X e (tE X.K cl W (evE (cfgN P n) x))) (hm : mE X.N nm x sc e = true) : PE X e (tRd X.K cl W fun ρ M => evE (cfgN P n) x ρ M) := s_toR h
theorem SE.plain (w : XW P nm cl n X sc W) {x : Ex} {e : Expr} (h : PE X e (tE X.K cl W (evE (cfgN P n) x))) (hm : mE X.N nm x sc e = true) (hp : ∀ whole, isTrue e X.env whole = (do let v ← whole; standAt e.pos; holding [v] (truthy v))) : SE P n cl W X x e :=
  ⟨h, fun _ => s_tplain (SE.rd w h hm) hp⟩
theorem evT_not {c : Cfg} {x : Ex} {ρ : Sl} {M : Mem} : evT c (.not x) ρ M = (evT c x ρ M).bind fun b M1 => .ok (!b) M1 := by
  unfold evT
  simp only [evE, R.bind_assoc]
  congr 1
theorem evT_other {c : Cfg} {x : Ex} {ρ : Sl} {M : Mem} (h : ∀ i, x ≠ .var i) : evT c x ρ M = (evE c x ρ M).bind fun d M1 => R.of (truth d) M1 := rfl
theorem PE.cong {e : Expr} {ra rb : Sl → Mem → VL.R D} (h : PE X e (tE X.K cl W ra)) (q : ∀ ρ M, rb ρ M = ra ρ M) : PE X e (tE X.K cl W rb) := by
  have : rb = ra := by funext ρ M; exact q ρ M
  rw [this]; exact h
theorem PT.cong {e : Expr} {ra rb : Sl → Mem → VL.R Bool} (h : PT X e (tT X.K cl W ra)) (q : ∀ ρ M, rb ρ M = ra ρ M) : PT X e (tT X.K cl W rb) := by
  have : rb = ra := by funext ρ M; exact q ρ M
  rw [this]; exact h
theorem PW.cong {e : Expr} {ra rb : Sl → Mem → VL.R Bool} (h : PW X e (tT X.K cl W ra)) (q : ∀ ρ M, rb ρ M = ra ρ M) : PW X e (tT X.K cl W rb) := by
  have : rb = ra := by funext ρ M; exact q ρ M
  rw [this]; exact h
theorem PA.cong {e : List Expr} {ra rb : Sl → Mem → VL.R (List D)} (h : PA X e (tA X.K cl W ra)) (q : ∀ ρ M, rb ρ M = ra ρ M) : PA X e (tA X.K cl W rb) := by
  have : rb = ra := by funext ρ M; exact q ρ M
  rw [this]; exact h
theorem PA.congR {e : List Expr} {ra rb : Sl → Mem → VL.R (List D)} (h : PA X e (tAR X.K cl W ra)) (q : ∀ ρ M, rb ρ M = ra ρ M) : PA X e (tAR X.K cl W rb) := by
  have : rb = ra := by funext ρ M; exact q ρ M
  rw [this]; exact h
theorem PI.cong {tg e : Expr} {ra rb : Sl → Mem → VL.R (List D)} (h : PI X tg e (tI X.K cl W ra)) (q : ∀ ρ M, rb ρ M = ra ρ M) : PI X tg e (tI X.K cl W rb) := by
  have : rb = ra := by funext ρ M; exact q ρ M
  rw [this]; exact h
theorem mEs_len {N : List Str} : ∀ {xs : List Ex} {es : List Expr}, mEs N nm xs sc es = true → xs.length = es.length
  | [], [], _ => rfl
  | [], _ :: _, h => by simp [mEs] at h
  | _ :: _, [], h => by simp [mEs] at h
  | x :: xs, e :: es, h => by
    simp only [mEs, Bool.and_eq_true] at h
    simp [mEs_len h.2]
/-- a new list or dict, not yet settled -/
def tL (K : PySem.W.Frag) (cl : Nat → Value) (W : WXX) (r : Sl → Mem → VL.R D) : TE := fun σ H Q => ∃ ι F ρ M, SR K ι F ρ M σ H ∧ Res K cl W ι F σ H (r ρ M) fun d _ ι' F' H' => ∀ p, OwRep K ι' F' H' p d → F' p = none → p ∉ ι' → H p = none → Q (.ref p) H'
theorem tL_of {K : PySem.W.Frag} {r : Sl → Mem → VL.R D} {σ : L2.St} {H : Hp} {Q : VK} (z : tE K cl W r σ H Q) : tL K cl W r σ H Q := by
  obtain ⟨ι, F, ρ, M, sr, z⟩ := z
  refine ⟨ι, F, ρ, M, sr, ?_⟩
  cases e : r ρ M with
  | st => rw [e] at z; exact z
  | ex c M' => rw [e] at z; exact z
  | ok d M' =>
    rw [e] at z
    intro ι' F' H' s f m p o hF hn hp
    obtain ⟨u, hu⟩ : ∃ u, H' p = some u := by
      cases e : H' p with
      | none => exact absurd e o.isSome
      | some u => exact ⟨u, rfl⟩
    have mono : ∀ b w, F' b = some w → upd F' p u b = some w := fun b w hb => by rw [upd_ne (ne_of_none hb hF)]; exact hb
    refine z ι' (upd F' p u) H' ⟨s.pre, fun a w h => mono _ _ (s.subF a w h), fun a h n e => ?_, s.keep, s.live⟩ (fun b w hb => ?_) ⟨m.len, m.nd, fun k b mo h1 h2 => ?_⟩ (.ref p) ?_
    · rw [upd_ne fun z => h.ne (by rw [z]; exact hp)]; exact s.newF a h n e
    · by_cases eb : b = p
      · subst eb; rw [upd_same] at hb; cases hb; exact .inl hu
      · rw [upd_ne eb] at hb; exact f b w hb
    · obtain ⟨q1, q2⟩ := m.at_ k b mo h1 h2
      have nb : b ≠ p := fun e => hn (by rw [← e]; exact List.mem_of_getElem? h1)
      exact ⟨by rw [upd_ne nb]; exact q1, q2.mono (fun _ _ h => h) mono fun _ h => h⟩
    · cases d with
      | lst ds =>
        obtain ⟨vs, z, rr⟩ := o
        rw [hu] at z; cases z
        exact .lst (.inl (.inl upd_same)) (rr.mono (fun _ _ h => h) mono)
      | dic t kds =>
        obtain ⟨l, z, rr⟩ := o
        refine .dic (l := l) ?_ (rr.mono (fun _ _ h => h) mono)
        cases t <;> (obtain ⟨k, z, e⟩ := z; rw [hu] at z; cases z; exact ⟨k, upd_same, e⟩)
      | _ => exact o.elim
def tLL (K : PySem.W.Frag) (cl : Nat → Value) (W : WXX) (Lk : L2.St → Hp → Hp → Sl → Prop) (r : Sl → Mem → VL.R D) : TE := fun σ H Q => ∃ ι F ρ M, SR K ι F ρ M σ H ∧ Lk σ F H ρ ∧ Res K cl W ι F σ H (r ρ M) fun d _ ι' F' H' => ∀ p, OwRep K ι' F' H' p d → F' p = none → p ∉ ι' → H p = none → Q (.ref p) H'
/-- a comprehension, its parts being served -/
theorem s_compPartsL (w : XW P nm cl n X sc W) {c : Cfg} {elt : Ex} {p : Pt} {conds : List Ex} {own : List Nat} {k : ItK} {args : List Ex} {ee tg iter : Expr} {ifs : List Expr} {scope : Scope} {wi : TI} (Lk : L2.St → Hp → Hp → Sl → Prop)
    (hb : blkC X.N sc scope (own.map fun i => (X.N.getD i "", i)) = true) (hp : mP X.N scope p tg = true) (hpo : (ptV p).all (fun i => own.contains i) = true) (hset : ∀ a b c, iter ≠ .Set a b c)
    (hi : PI X tg iter wi)
    (hwi : ∀ σ H R, (∃ ι F ρ M, SR X.K ι F ρ M σ H ∧ Lk σ F H ρ ∧ Res X.K cl W ι F σ H ((evEs c args ρ M).bind fun ds M1 => VL.R.of (itD k ds) M1) fun ds _ ι' F' H' => ∀ J, Wk X.K J ι' F' H' ds → ds.length ≤ sizeLine → R J H') → wi σ H R) (hcl : conds.length ≤ 1) (hcl2 : conds.length = ifs.length)
    (he : ∀ (X' : Cx), X'.N = X.N → X'.K = X.K → XW P nm cl n X' scope (fun _ _ _ _ => False) → PE X' ee (tE X'.K cl (fun _ _ _ _ => False) (evE c elt)))
    (hc : ∀ (X' : Cx), X'.N = X.N → X'.K = X.K → XW P nm cl n X' scope (fun _ _ _ _ => False) → ∀ x e, conds = [x] → ifs = [e] → PT X' e (tT X'.K cl (fun _ _ _ _ => False) (evT c x))) :
    ∃ t : TE, (∀ pos, PE X (.ListComp ee [⟨tg, iter, ifs, 0⟩] scope pos) t) ∧
      (∀ {i : Nat} {y : Str} {py pos spos : Pos}, X.N[i]? = some y → X.env.scope.names.lookup y = some .local → swapsWith (.ListComp ee [⟨tg, iter, ifs, 0⟩] scope pos) (some (.Name y py)) spos.line X.env = pure true → PS X (.Assign [.Name y py] (.ListComp ee [⟨tg, iter, ifs, 0⟩] scope pos) spos) (tAsg t (gName i))) ∧
      ∀ σ H Q, tLL X.K cl W Lk (evE c (.comp elt p k args conds own)) σ H Q → t σ H Q := by
  have eown : (own.map fun i => (X.N.getD i "", i)).map (·.2) = own := by rw [List.map_map]; exact List.map_id' own
  have hw := fun s H C cs fp => w.blk (scope := scope) s H C cs fp
  have hpts : ∀ (s : Shared) (H : Hp) (C : Addr) (cs : List (Str × Addr)) (fp : List Addr), PTs (X.blk s H scope (compEnvC scope cs C X.env) fp) ifs (ttOf X.K cl (fun _ _ _ _ => False) c conds) := fun s H C cs fp =>
    s_pts (X := X.blk s H scope (compEnvC scope cs C X.env) fp) (W := fun _ _ _ _ => False) hcl hcl2 (hc _ rfl rfl (hw s H C cs fp))
  refine ⟨tLc wi (tG X.K p) (ttOf X.K cl (fun _ _ _ _ => False) c conds) (tE X.K cl (fun _ _ _ _ => False) (evE c elt)) own, fun pos => ?_, fun {i y py pos spos} h1 h2 h3 => ?_, fun σ H Q z => ?_⟩
  · have base := pe_lc (X := X) (elt := ee) (tg := tg) (iter := iter) (ifs := ifs) (scope := scope) (pos := pos) (own := own.map fun i => (X.N.getD i "", i)) (g := tG X.K p) (tt := ttOf X.K cl (fun _ _ _ _ => False) c conds) (te := tE X.K cl (fun _ _ _ _ => False) (evE c elt)) w.calm w.nd hi (blk_ok w hb)
      (fun s H C cs fp => s_pat (hw s H C cs fp) hp) hpts (fun s H C cs fp => he _ rfl rfl (hw s H C cs fp)) (set_ok hset)
    rw [eown] at base
    exact base
  · have base := ps_setLc (X := X) (elt := ee) (tg := tg) (iter := iter) (ifs := ifs) (scope := scope) (pos := pos) (spos := spos) (own := own.map fun i => (X.N.getD i "", i)) (g := tG X.K p) (tt := ttOf X.K cl (fun _ _ _ _ => False) c conds) (te := tE X.K cl (fun _ _ _ _ => False) (evE c elt)) w.calm w.nd h1 h2 h3 hi (blk_ok w hb)
      (fun s H C cs fp => s_pat (hw s H C cs fp) hp) hpts (fun s H C cs fp => he _ rfl rfl (hw s H C cs fp)) (set_ok hset)
    rw [eown] at base
    exact base
  obtain ⟨ι, F, ρ, M, r, lk, z⟩ := z
  have z : Res X.K cl W ι F σ H (((evEs c args ρ M).bind fun ds M1 => R.of (itD k ds) M1).bind fun items M2 => ((compL (compF c elt p conds own ρ) items M2).nox).bind fun rs M3 => VL.R.ok (D.lst rs) M3) (fun d _ ι' F' H' => ∀ p, OwRep X.K ι' F' H' p d → F' p = none → p ∉ ι' → H p = none → Q (.ref p) H') := by
    rw [R.bind_assoc]
    simp only [evE] at z
    exact z
  refine hwi _ _ _ ⟨ι, F, ρ, M, r, lk, Res.imp (Res.bind z) fun items M2 ι2 F2 H2 s2 f2 m2 q J wk hl D hD => ?_⟩
  cases e : compL (compF c elt p conds own ρ) items M2 with
  | ok rs M3 =>
    rw [e] at q
    refine comp_run (r.step s2 f2 m2) wk hl hD e (fun i hi => by
      have := List.all_eq_true.mp hpo i hi
      simpa using this) (fun _ _ _ z => z) (tt_imp hcl) fun ι' F' H' s f m o hF hn _ => ?_
    refine q ι' F' H' s f m D o hF hn ?_
    by_cases hh : H D = none
    · exact hh
    · exact absurd hD (s2.live D hh)
  | ex _ _ => rw [e] at q; exact q.elim
  | st => rw [e] at q; exact q.elim
theorem s_compParts (w : XW P nm cl n X sc W) {c : Cfg} {elt : Ex} {p : Pt} {conds : List Ex} {own : List Nat} {k : ItK} {args : List Ex} {ee tg iter : Expr} {ifs : List Expr} {scope : Scope} {ri : Sl → Mem → VL.R (List D)}
    (hb : blkC X.N sc scope (own.map fun i => (X.N.getD i "", i)) = true) (hp : mP X.N scope p tg = true) (hpo : (ptV p).all (fun i => own.contains i) = true) (hset : ∀ a b c, iter ≠ .Set a b c)
    (hi : PI X tg iter (tI X.K cl W ri)) (hri : ∀ ρ M, ri ρ M = (evEs c args ρ M).bind fun ds M1 => R.of (itD k ds) M1) (hcl : conds.length ≤ 1) (hcl2 : conds.length = ifs.length)
    (he : ∀ (X' : Cx), X'.N = X.N → X'.K = X.K → XW P nm cl n X' scope (fun _ _ _ _ => False) → PE X' ee (tE X'.K cl (fun _ _ _ _ => False) (evE c elt)))
    (hc : ∀ (X' : Cx), X'.N = X.N → X'.K = X.K → XW P nm cl n X' scope (fun _ _ _ _ => False) → ∀ x e, conds = [x] → ifs = [e] → PT X' e (tT X'.K cl (fun _ _ _ _ => False) (evT c x))) :
    ∃ t : TE, (∀ pos, PE X (.ListComp ee [⟨tg, iter, ifs, 0⟩] scope pos) t) ∧
      (∀ {i : Nat} {y : Str} {py pos spos : Pos}, X.N[i]? = some y → X.env.scope.names.lookup y = some .local → swapsWith (.ListComp ee [⟨tg, iter, ifs, 0⟩] scope pos) (some (.Name y py)) spos.line X.env = pure true → PS X (.Assign [.Name y py] (.ListComp ee [⟨tg, iter, ifs, 0⟩] scope pos) spos) (tAsg t (gName i))) ∧
      ∀ σ H Q, tL X.K cl W (evE c (.comp elt p k args conds own)) σ H Q → t σ H Q := by
  obtain ⟨t, h1, h2, h3⟩ := s_compPartsL (cl := cl) (W := W) (c := c) (elt := elt) (args := args) (k := k) w (fun _ _ _ _ => True) hb hp hpo hset hi (fun σ H R ⟨ι, F, ρ, M, r, _, z⟩ => ⟨ι, F, ρ, M, r, by rw [hri]; exact z⟩) hcl hcl2 he hc
  exact ⟨t, h1, h2, fun σ H Q ⟨ι, F, ρ, M, r, z⟩ => h3 σ H Q ⟨ι, F, ρ, M, r, trivial, z⟩⟩
theorem PS.or {st : Stmt} {t t' : TS} (h : PS X st t) (h' : PS X st t') : PS X st (fun D σ H => t D σ H ∨ t' D σ H) :=
  ⟨fun pins s σ H Q I z => z.elim (fun z => h.run pins s σ H Q I z) fun z => h'.run pins s σ H Q I z⟩
theorem PE.or {e : Expr} {t t' : TE} (h : PE X e t) (h' : PE X e t') : PE X e (fun D σ H => t D σ H ∨ t' D σ H) :=
  ⟨fun pins s σ H Q I z => z.elim (fun z => h.run pins s σ H Q I z) fun z => h'.run pins s σ H Q I z⟩
/-- slot i's dict: locked already, or to be locked -/
theorem dic_lock {K : PySem.W.Frag} {ι : List Addr} {F H : Hp} {ρ : Sl} {M : Mem} {σ : L2.St} {i : Nat} {t : Bool} {kds : List (D × D)} (r : SR K ι F ρ M σ H) (e : ρ[i]? = some (.fz (.dic t kds))) :
    LkK i σ F H ρ ∨ ∃ d u, σ[i]? = some (some (.ref d)) ∧ F d = some u ∧ H d = some u ∧ isDicO u = true := by
  obtain ⟨v, e1, rv⟩ := r.fz i _ e
  cases rv with
  | dic at_ rk =>
    rename_i a l
    obtain ⟨u, hu, hd⟩ : ∃ u, F a = some u ∧ isDicO u = true := by
      cases t <;> (obtain ⟨k, z, _⟩ := at_; exact ⟨_, z, rfl⟩)
    rcases r.sub a u hu with z | ⟨_, o, z⟩
    · exact .inr ⟨a, u, e1, hu, z, hd⟩
    · exact .inl ⟨t, kds, a, o, u, e, e1, hu, z⟩
theorem OwRep.upd {K : PySem.W.Frag} {ι : List Addr} {F H : Hp} {a d : Addr} {o : HO} {x : D} (h : OwRep K ι F H a x) (n : a ≠ d) : OwRep K ι F (L2.upd H d o) a x := h.mono (fun _ _ h => h) (fun _ _ h => h) fun u e => by rw [upd_ne n]; exact e
theorem evE_compK {c : Cfg} {elt : Ex} {p : Pt} {conds : List Ex} {own : List Nat} {j : Nat} {ρ : Sl} {M : Mem} : evE c (.comp elt p .keys [.var j] conds own) ρ M = (match ρ[j]? with
    | some (.fz (.dic _ kds)) => ((compL (compF c elt p conds own ρ) (kds.map (·.1)) M).nox).bind fun r M3 => .ok (.lst r) M3
    | _ => .st) := by
  rw [evE]
  simp only [evEs, evE]
  cases h : ρ[j]? with
  | none => rfl
  | some s =>
    cases s with
    | un => rfl
    | ow _ _ => rfl
    | fz d => cases d <;> rfl
/-- a comprehension over a dict -/
theorem s_compK (w : XW P nm cl n X sc W) {c : Cfg} {elt : Ex} {p : Pt} {conds : List Ex} {own : List Nat} {j : Nat} {ee tg iter : Expr} {ifs : List Expr} {scope : Scope}
    (hb : blkC X.N sc scope (own.map fun i => (X.N.getD i "", i)) = true) (hp : mP X.N scope p tg = true) (hpo : (ptV p).all (fun i => own.contains i) = true)
    (hi : mVar X.N sc j iter = true) (hcl : conds.length ≤ 1) (hcl2 : conds.length = ifs.length)
    (he : ∀ (X' : Cx), X'.N = X.N → X'.K = X.K → XW P nm cl n X' scope (fun _ _ _ _ => False) → PE X' ee (tE X'.K cl (fun _ _ _ _ => False) (evE c elt)))
    (hc : ∀ (X' : Cx), X'.N = X.N → X'.K = X.K → XW P nm cl n X' scope (fun _ _ _ _ => False) → ∀ x e, conds = [x] → ifs = [e] → PT X' e (tT X'.K cl (fun _ _ _ _ => False) (evT c x))) :
    ∃ t : TE, (∀ pos, PE X (.ListComp ee [⟨tg, iter, ifs, 0⟩] scope pos) t) ∧
      (∀ {i : Nat} {y : Str} {py pos spos : Pos}, X.N[i]? = some y → X.env.scope.names.lookup y = some .local → swapsWith (.ListComp ee [⟨tg, iter, ifs, 0⟩] scope pos) (some (.Name y py)) spos.line X.env = pure true → PS X (.Assign [.Name y py] (.ListComp ee [⟨tg, iter, ifs, 0⟩] scope pos) spos) (tAsg t (gName i))) ∧
      ∀ σ H Q, tL X.K cl W (evE c (.comp elt p .keys [.var j] conds own)) σ H Q → t σ H Q := by
  have hwi : ∀ σ H (Rr : It → Hp → Prop), (∃ ι F ρ M, SR X.K ι F ρ M σ H ∧ LkK j σ F H ρ ∧ Res X.K cl W ι F σ H ((evEs c [.var j] ρ M).bind fun ds M1 => VL.R.of (itD .keys ds) M1) fun ds _ ι' F' H' => ∀ J, Wk X.K J ι' F' H' ds → ds.length ≤ sizeLine → Rr J H') → tIk X.K j σ H Rr := fun σ H Rr ⟨ι, F, ρ, M, r, lk, z⟩ => by
    obtain ⟨t, kds, d, o, u, e1, e2, e3, e4⟩ := id lk
    refine ⟨ι, F, ρ, M, t, kds, r, e1, lk, ?_⟩
    simp only [evEs, evE, e1, VL.R.bind_ok, itD] at z
    exact Res.of_ok z r.sub r.mem
  obtain ⟨t, h1, h2, h3⟩ := s_compPartsL (cl := cl) (W := W) (c := c) (elt := elt) (args := [.var j]) (k := .keys) w (LkK j) hb hp hpo (fun a b c e => by rw [e] at hi; cases hi) (s_ikeys w hi) hwi hcl hcl2 he hc
  refine ⟨fun σ H Q => t σ H Q ∨ tLockE t σ H Q, fun pos => PE.or (h1 pos) (pe_lock (h1 pos)), fun k1 k2 k3 => PS.weak (PS.or (h2 k1 k2 k3) (ps_lock (h2 k1 k2 k3))) fun D σ H z => z, fun σ H Q ⟨ι, F, ρ, M, r, z⟩ => ?_⟩
  have ev := evE_compK (c := c) (elt := elt) (p := p) (conds := conds) (own := own) (j := j) (ρ := ρ) (M := M)
  rw [ev] at z
  split at z
  · rename_i tt kds e1
    rw [e1] at ev
    dsimp only at ev
    cases e3 : compL (compF c elt p conds own ρ) (kds.map (·.1)) M with
    | st => rw [e3] at z; exact z.elim
    | ex _ _ => rw [e3] at z; exact z.elim
    | ok rs M3 =>
      rw [e3] at z ev
      have z : Res X.K cl W ι F σ H (VL.R.ok (D.lst rs) M3) _ := z
      have ev : _ = VL.R.ok (D.lst rs) M3 := ev
      rcases dic_lock r e1 with lk | ⟨d, u, g1, g2, g3, g4⟩
      · exact .inl (h3 _ _ _ ⟨ι, F, ρ, M, r, lk, by rw [ev]; exact z⟩)
      · refine .inr ⟨d, u, g3, isDic_mut g4, fun od => h3 _ _ _ ⟨ι, F, ρ, M, let ⟨O, r⟩ := r; ⟨O, r.lock g2 g4⟩, ⟨tt, kds, d, od, u, e1, g1, g2, upd_same⟩, ?_⟩⟩
        rw [ev]
        intro ι' F' H' s f m p0 o hF hn hp0
        obtain ⟨k1, k2⟩ := s.unlock r.mem g2 g3
        have fd := s.subF _ _ g2
        have np : p0 ≠ d := fun e => by rw [e, fd] at hF; cases hF
        refine ⟨k1, z ι' F' _ k2 (f.unlock fd) (m.at_upd (some_ne fd)) p0 (o.upd np) hF hn ?_⟩
        rw [upd_ne np] at hp0; exact hp0
  · exact z.elim
/-! ### comprehensions with two walks -/
def compO (c : Cfg) (elt : Ex) (p : Pt) (conds : List Ex) (own : List Nat) (p2 : Pt) (k2 : ItK) (args2 conds2 : List Ex) (own2 : List Nat) (ρ : Sl) : D → Mem → VL.R (Option (List D)) := fun d M3 => match bindP p d (killS ρ own) with
  | some ρ' => (evAll c conds ρ' M3).bind fun b M4 => if b = true then (evEs c args2 ρ' M4).bind fun ds2 M5 => (VL.R.of (itD k2 ds2) M5).bind fun items2 M6 =>
      (compL (compF c elt p2 conds2 own2 ρ') items2 M6).bind fun r M10 => .ok (some r) M10 else .ok none M4
  | none => .st
structure CompAt2 (K : PySem.W.Frag) (f : D → Mem → VL.R (Option (List D))) (items : List D) (rs : List D) (M3 : Mem) (ι2 : List Addr) (F2 H2 : Hp) (D : Addr) (i : Nat) (H : Hp) : Prop where
  ex : ∃ ι F Mi vs acc rest, Stp ι2 F2 H2 ι F H ∧ FSub F H ∧ MemRep K ι F Mi H ∧ H D = some (.lst vs) ∧ Reps K ι F vs acc ∧ F D = none ∧ D ∉ ι ∧ compL f (items.drop i) Mi = .ok rest M3 ∧ acc ++ rest.flatten = rs
/-- the inner walk -/
structure CompAtI (K : PySem.W.Frag) (f : D → Mem → VL.R (Option D)) (items : List D) (rs tail : List D) (M6 : Mem) (ι2 : List Addr) (F2 H2 : Hp) (D : Addr) (ι5 : List Addr) (F5 H5 : Hp) (O : Addr → Prop) (ρ : Sl) (σ : L2.St) (i : Nat) (H : Hp) : Prop where
  ex : ∃ ι F Mi vs acc rest, Stp ι2 F2 H2 ι F H ∧ (∀ (n : Nat) a, ι5[n]? = some a → ι[n]? = some a) ∧ (∀ a u, F5 a = some u → F a = some u) ∧ Kp F5 H5 H ∧ SRO K ι F O ρ Mi σ H ∧ H D = some (.lst vs) ∧ Reps K ι F vs acc ∧ F D = none ∧ D ∉ ι ∧ compL f (items.drop i) Mi = .ok rest M6 ∧ acc ++ (rest ++ tail) = rs
theorem SRO.updD {K : PySem.W.Frag} {ι : List Addr} {F H : Hp} {O : Addr → Prop} {ρ : Sl} {M : Mem} {σ : L2.St} {D : Addr} {o : HO} (r : SRO K ι F O ρ M σ H) (hF : F D = none) (hn : D ∉ ι) (hO : ¬ O D) : SRO K ι F O ρ M σ (L2.upd H D o) := by
  obtain ⟨z1, z2⟩ := out_upd (o := o) r.sub r.mem hF hn
  have ne : ∀ a, O a → a ≠ D := fun a h z => hO (by rw [← z]; exact h)
  obtain ⟨S, h1, h2, h3⟩ := r.ow
  exact ⟨z1, z2, r.len, r.fz, fun a h => let ⟨q1, q2, q3⟩ := r.own a h; ⟨q1, q2, q3.upd (ne a h)⟩, S, fun i m dd h => let ⟨v, q1, q2⟩ := h1 i m dd h; ⟨v, q1, q2.mono (fun _ _ h => h) (fun _ _ h => h) fun a ha => ⟨ha, fun w hw => by rw [upd_ne (ne a (h2 i a ha))]; exact hw⟩⟩, h2, h3⟩
theorem drop_at {α : Type} {l : List α} {i : Nat} {d : α} (h : l[i]? = some d) : l.drop i = d :: l.drop (i + 1) := by
  have hlt : i < l.length := (List.getElem?_eq_some_iff.mp h).1
  rw [List.drop_eq_getElem_cons hlt]
  rw [List.getElem?_eq_getElem hlt] at h
  cases h; rfl
theorem comp2_run {K : PySem.W.Frag} {c : Cfg} {ρ : Sl} {σ : L2.St} {elt : Ex} {p p2 : Pt} {k2 : ItK} {args2 conds conds2 : List Ex} {own own2 : List Nat} {items : List D} {rl : List (List D)} {M3 : Mem} {ι2 : List Addr} {F2 H2 : Hp} {J : It} {D : Addr} {Q : VK} {Mz : Mem} {te : TE} {tt tt1 : TT} {wi1 : TI}
    (r : SR K ι2 F2 ρ Mz σ H2) (wk : Wk K J ι2 F2 H2 items) (hD : H2 D = none) (he : compL (compO c elt p conds own p2 k2 args2 conds2 own2 ρ) items Mz = .ok rl M3) (hl : rl.flatten.length ≤ sizeLine) (hp : ∀ i ∈ ptV p, i ∈ own) (hp2 : ∀ i ∈ ptV p2, i ∈ own2)
    (hwi : ∀ σ H Rr, tI K cl (fun _ _ _ _ => False) (fun ρ M => (evEs c args2 ρ M).bind fun ds M1 => VL.R.of (itD k2 ds) M1) σ H Rr → wi1 σ H Rr)
    (hte : ∀ σ H Q, tE K cl (fun _ _ _ _ => False) (evE c elt) σ H Q → te σ H Q) (htt : ∀ σ H Q, tT K cl (fun _ _ _ _ => False) (evAll c conds) σ H Q → tt σ H Q) (htt1 : ∀ σ H Q, tT K cl (fun _ _ _ _ => False) (evAll c conds2) σ H Q → tt1 σ H Q)
    (q : ∀ ι' F' H', Stp ι2 F2 H2 ι' F' H' → FSub F' H' → MemRep K ι' F' M3 H' → OwRep K ι' F' H' D (.lst rl.flatten) → F' D = none → D ∉ ι' → Q (.ref D) H') :
    ∃ W : Nat → Nat → Hp → Prop, (∃ m, W 0 m (upd H2 D (.lst []))) ∧ ∀ i m H, W i m H →
      (J.stop i H ∧ Q (.ref D) H) ∨ (J.go i H ∧ ∃ Nx : Hp → Prop, (∀ H', Nx H' → ∃ m', m' < m ∧ W (i + 1) m' H') ∧ ∀ x H', J.yld i H x H' → tG K p x (wipe σ own) H' fun σ2 H2 => wipe σ2 own = wipe σ own ∧ tt σ2 H2 fun b H3 =>
        if b = true then wi1 σ2 H3 fun J1 H4 => ∃ W1 : Nat → Nat → Hp → Prop, (∃ m, W1 0 m H4) ∧ ∀ j k H, W1 j k H →
          (J1.stop j H ∧ Nx H) ∨ (J1.go j H ∧ ∃ Nx1 : Hp → Prop, (∀ H', Nx1 H' → ∃ k', k' < k ∧ W1 (j + 1) k' H') ∧ ∀ x H', J1.yld j H x H' → tG K p2 x (wipe σ2 own2) H' fun σ3 H5 => wipe σ3 own2 = wipe σ2 own2 ∧ tt1 σ3 H5 fun b H6 =>
            if b = true then te σ3 H6 fun y H7 => ∃ acc, H7 D = some (.lst acc) ∧ acc.length < sizeLine ∧ Nx1 (upd H7 D (.lst (acc ++ [y]))) else Nx1 H6)
        else Nx H3) := by
  have hF2 : F2 D = none := by
    cases e : F2 D with
    | none => rfl
    | some u => exact absurd hD (r.sub.isSome e)
  have hi2 : D ∉ ι2 := fun h => (r.mem.there h).1 hD
  generalize hfo : compO c elt p conds own p2 k2 args2 conds2 own2 ρ = fo at he
  refine ⟨fun i m H => m = items.length - i ∧ i ≤ items.length ∧ CompAt2 K fo items rl.flatten M3 ι2 F2 H2 D i H, ⟨items.length, rfl, Nat.zero_le _, ?_⟩, ?_⟩
  · obtain ⟨a1, a2⟩ := out_upd (o := .lst []) r.sub r.mem hF2 hi2
    exact ⟨ι2, F2, Mz, [], [], rl, Stp.refl.upd hD, a1, a2, upd_same, .nil, hF2, hi2, by simpa using he, rfl⟩
  · rintro i m H ⟨rfl, hi, ⟨ι, F, Mi, vs, acc, rest, st, f, mr, hd, hv, hF, hn, hc, er⟩⟩
    by_cases hlt : i < items.length
    · refine .inr ⟨wk.go i F H st.subF f (st.kp r.mem) hlt, fun H' => CompAt2 K fo items rl.flatten M3 ι2 F2 H2 D (i + 1) H', fun H' h => ⟨items.length - (i + 1), by omega, rfl, by omega, h⟩, fun x H' y => ?_⟩
      obtain ⟨d, F', e1, s1, f1, m1, rx⟩ := wk.yld i ι F H Mi x H' st.ix st.subF f (st.kp r.mem) mr y hlt
      obtain ⟨d1, d2, d3⟩ := s1.own hd hF hn
      rw [drop_at e1] at hc
      obtain ⟨o, M1, rr, c1, c2, c3⟩ := compL_cons_ok hc
      rw [← hfo] at c1
      unfold compO at c1
      split at c1
      · rename_i ρ' eb
        obtain ⟨O, r0⟩ := r
        have hOD : ¬ O D := fun z => (r0.own D z).2.2.ne hD
        have r1 : SRO K ι F' O ρ Mi σ H' := (r0.step st f mr).step s1 f1 m1
        have r : SR K ι2 F2 ρ Mz σ H2 := ⟨O, r0⟩
        refine ⟨ι, F', O, killS ρ own, Mi, d, ρ', r1.wipe own, rx, eb, fun σ' r2 out => ⟨out.wipe hp, htt _ _ _ ⟨ι, F', ρ', Mi, ⟨O, r2⟩, ?_⟩⟩⟩
        cases ec : evAll c conds ρ' Mi with
        | ex _ _ => rw [ec] at c1; cases c1
        | st => rw [ec] at c1; cases c1
        | ok b M4 =>
          rw [ec, R.bind_ok] at c1
          intro ι4 F4 H4 s4 f4 m4
          obtain ⟨g1, g2, g3⟩ := s4.own d1 d2 d3
          cases b with
          | false =>
            rw [if_neg (by decide)] at c1 ⊢
            cases c1
            exact ⟨ι4, F4, M1, vs, acc, rr, (st.trans s1).trans s4, f4, m4, g1, s4.reps (s1.reps hv), g2, g3, c2, by rw [← er, c3]⟩
          | true =>
            rw [if_pos rfl] at c1 ⊢
            refine hwi _ _ _ ⟨ι4, F4, ρ', M4, ⟨O, r2.step s4 f4 m4⟩, ?_⟩
            dsimp only
            cases ea : evEs c args2 ρ' M4 with
            | ex _ _ => rw [ea] at c1; cases c1
            | st => rw [ea] at c1; cases c1
            | ok ds2 M5 =>
              rw [ea, R.bind_ok] at c1
              rw [R.bind_ok]
              cases ei : itD k2 ds2 with
              | none => rw [ei] at c1; cases c1
              | some items2 =>
                rw [ei] at c1
                rw [VL.R.of_some, R.bind_ok] at c1
                cases e2 : compL (compF c elt p2 conds2 own2 ρ') items2 M5 with
                | ex _ _ => rw [e2] at c1; cases c1
                | st => rw [e2] at c1; cases c1
                | ok r2' M10 =>
                  rw [e2, R.bind_ok] at c1
                  cases c1
                  intro ι5 F5 H5 s5 f5 m5 J1 wk1 hl1
                  have k5 := s5.own g1 g2 g3
                  have s15 := ((st.trans s1).trans s4).trans s5
                  have hv5 : Reps K ι5 F5 vs acc := s5.reps (s4.reps (s1.reps hv))
                  have r5 : SRO K ι5 F5 O ρ' M5 σ' H5 := (r2.step s4 f4 m4).step s5 f5 m5
                  refine ⟨fun j k H => k = items2.length - j ∧ j ≤ items2.length ∧ CompAtI K (compF c elt p2 conds2 own2 ρ') items2 rl.flatten rr.flatten M1 ι2 F2 H2 D ι5 F5 H5 O ρ' σ' j H, ⟨items2.length, rfl, Nat.zero_le _, ι5, F5, M5, vs, acc, r2', s15, fun _ _ h => h, fun _ _ h => h, Kp.refl, r5, k5.1, hv5, k5.2.1, k5.2.2, by simpa using e2, ?_⟩, ?_⟩
                  · rw [← er, c3]; simp
                  · rintro j k H6 ⟨rfl, hj, ⟨ι6, F6, Mj, vs6, acc6, rest6, st6, ix6, sub6, kp6, r6, hd6, hv6, hF6, hn6, hc6, er6⟩⟩
                    by_cases hlt6 : j < items2.length
                    · refine .inr ⟨wk1.go j F6 H6 sub6 r6.sub kp6 hlt6, fun H' => CompAtI K (compF c elt p2 conds2 own2 ρ') items2 rl.flatten rr.flatten M1 ι2 F2 H2 D ι5 F5 H5 O ρ' σ' (j + 1) H', fun H' h => ⟨items2.length - (j + 1), by omega, rfl, by omega, h⟩, fun x7 H7 y7 => ?_⟩
                      obtain ⟨d7, F7, e7, s7, f7, m7, rx7⟩ := wk1.yld j ι6 F6 H6 Mj x7 H7 ix6 sub6 r6.sub kp6 r6.mem y7 hlt6
                      obtain ⟨a1, a2, a3⟩ := s7.own hd6 hF6 hn6
                      rw [drop_at e7] at hc6
                      obtain ⟨o8, M8, rr8, b1, b2, b3⟩ := compL_cons_ok hc6
                      unfold compF at b1
                      split at b1
                      · rename_i ρ8 eb8
                        have r7 : SRO K ι6 F7 O ρ' Mj σ' H7 := r6.step s7 f7 m7
                        refine ⟨ι6, F7, O, killS ρ' own2, Mj, d7, ρ8, r7.wipe own2, rx7, eb8, fun σ8 r8 out8 => ⟨out8.wipe hp2, htt1 _ _ _ ⟨ι6, F7, ρ8, Mj, ⟨O, r8⟩, ?_⟩⟩⟩
                        have kx : ∀ {Fx Gx Gy : Hp}, (∀ a u, F5 a = some u → Fx a = some u) → Kp F5 H5 Gx → Kp Fx Gx Gy → Kp F5 H5 Gy := fun h1 h2 h3 => h2.trans h3 h1
                        cases ec8 : evAll c conds2 ρ8 Mj with
                        | ex _ _ => rw [ec8] at b1; cases b1
                        | st => rw [ec8] at b1; cases b1
                        | ok bb M9 =>
                          rw [ec8, R.bind_ok] at b1
                          intro ι9 F9 H9 s9 f9 m9
                          obtain ⟨u1, u2, u3⟩ := s9.own a1 a2 a3
                          have r9 : SRO K ι9 F9 O ρ' M9 σ' H9 := r7.step s9 f9 m9
                          have s79 := s7.trans s9
                          have k79 := s79.kp r6.mem
                          cases bb with
                          | true =>
                            rw [if_pos rfl] at b1 ⊢
                            refine hte _ _ _ ⟨ι9, F9, ρ8, M9, ⟨O, r8.step s9 f9 m9⟩, ?_⟩
                            cases ee : evE c elt ρ8 M9 with
                            | ok yy Ma =>
                              rw [ee, R.bind_ok] at b1
                              cases b1
                              intro ιa Fa Ha sa fa ma v hva
                              obtain ⟨w1, w2, w3⟩ := sa.own u1 u2 u3
                              have hvs : Reps K ιa Fa vs6 acc6 := sa.reps (s9.reps (s7.reps hv6))
                              have el : (acc6 ++ (yy :: (rr8 ++ rr.flatten))).length = rl.flatten.length := by rw [← er6, b3]; simp
                              refine ⟨vs6, w1, by rw [hvs.length]; simp only [List.length_append, List.length_cons] at el; omega, ?_⟩
                              have sall := s79.trans sa
                              have kD : ∀ a u, F5 a ≠ none → H5 a = some u → a ≠ D := fun a u h _ z => h (by rw [z]; exact k5.2.1)
                              exact ⟨ιa, Fa, M8, vs6 ++ [v], acc6 ++ [yy], rr8, (st6.trans sall).upd hD, fun n a h => sall.ix n a (ix6 n a h), fun a u h => sall.subF a u (sub6 a u h), fun a u h h2 => by rw [upd_ne (kD a u h h2)]; exact kx sub6 kp6 (sall.kp r6.mem) a u h h2, (r9.step sa fa ma).updD w2 w3 hOD, upd_same, hvs.append (.cons hva .nil), w2, w3, b2, by rw [← er6, b3]; simp⟩
                            | ex _ _ => rw [ee] at b1; cases b1
                            | st => rw [ee] at b1; cases b1
                          | false =>
                            rw [if_neg (by decide)] at b1 ⊢
                            cases b1
                            exact ⟨ι9, F9, M8, vs6, acc6, rr8, st6.trans s79, fun n a h => s79.ix n a (ix6 n a h), fun a u h => s79.subF a u (sub6 a u h), kx sub6 kp6 k79, r9, u1, s9.reps (s7.reps hv6), u2, u3, b2, by rw [← er6, b3]⟩
                      · cases b1
                    · have ej : j = items2.length := by omega
                      subst ej
                      refine .inl ⟨wk1.stop F6 H6 sub6 r6.sub kp6, ?_⟩
                      rw [List.drop_length] at hc6
                      simp only [compL] at hc6
                      cases hc6
                      exact ⟨ι6, F6, M1, vs6, acc6, rr, st6, r6.sub, r6.mem, hd6, hv6, hF6, hn6, c2, by simpa using er6⟩
      · cases c1
    · have e : i = items.length := by omega
      subst e
      refine .inl ⟨wk.stop F H st.subF f (st.kp r.mem), ?_⟩
      rw [List.drop_length] at hc
      simp only [compL] at hc
      cases hc
      simp only [List.flatten_nil, List.append_nil] at er
      subst er
      exact q ι F H st f mr ⟨vs, hd, hv⟩ hF hn
theorem s_comp2 (w : XW P nm cl n X sc W) {c : Cfg} {elt : Ex} {p p2 : Pt} {conds conds2 : List Ex} {own own2 : List Nat} {k k2 : ItK} {args args2 : List Ex} {ee tg iter tg2 iter2 : Expr} {ifs ifs2 : List Expr} {scope : Scope} {ri : Sl → Mem → VL.R (List D)}
    (hb : blkC X.N sc scope (own.map fun i => (X.N.getD i "", i)) = true) (hp : mP X.N scope p tg = true) (hpo : (ptV p).all (fun i => own.contains i) = true) (hset : ∀ a b c, iter ≠ .Set a b c) (hset2 : ∀ a b c, iter2 ≠ .Set a b c)
    (hi : PI X tg iter (tI X.K cl W ri)) (hri : ∀ ρ M, ri ρ M = (evEs c args ρ M).bind fun ds M1 => VL.R.of (itD k ds) M1) (hcl : conds.length ≤ 1) (hcl2 : conds.length = ifs.length)
    (hp2 : mP X.N scope p2 tg2 = true) (hpo2 : (ptV p2).all (fun i => own2.contains i) = true) (hsub : own2.all (fun i => own.contains i) = true) (hdl : conds2.length ≤ 1) (hdl2 : conds2.length = ifs2.length)
    (hi2 : ∀ (X' : Cx), X'.N = X.N → X'.K = X.K → XW P nm cl n X' scope (fun _ _ _ _ => False) → PI X' tg2 iter2 (tI X'.K cl (fun _ _ _ _ => False) fun ρ M => (evEs c args2 ρ M).bind fun ds M1 => VL.R.of (itD k2 ds) M1))
    (he : ∀ (X' : Cx), X'.N = X.N → X'.K = X.K → XW P nm cl n X' scope (fun _ _ _ _ => False) → PE X' ee (tE X'.K cl (fun _ _ _ _ => False) (evE c elt)))
    (hc : ∀ (X' : Cx), X'.N = X.N → X'.K = X.K → XW P nm cl n X' scope (fun _ _ _ _ => False) → ∀ x e, conds = [x] → ifs = [e] → PT X' e (tT X'.K cl (fun _ _ _ _ => False) (evT c x)))
    (hd : ∀ (X' : Cx), X'.N = X.N → X'.K = X.K → XW P nm cl n X' scope (fun _ _ _ _ => False) → ∀ x e, conds2 = [x] → ifs2 = [e] → PT X' e (tT X'.K cl (fun _ _ _ _ => False) (evT c x))) :
    ∃ t : TE, (∀ pos, PE X (.ListComp ee [⟨tg, iter, ifs, 0⟩, ⟨tg2, iter2, ifs2, 0⟩] scope pos) t) ∧
      (∀ {i : Nat} {y : Str} {py pos spos : Pos}, X.N[i]? = some y → X.env.scope.names.lookup y = some .local → swapsWith (.ListComp ee [⟨tg, iter, ifs, 0⟩, ⟨tg2, iter2, ifs2, 0⟩] scope pos) (some (.Name y py)) spos.line X.env = pure true → PS X (.Assign [.Name y py] (.ListComp ee [⟨tg, iter, ifs, 0⟩, ⟨tg2, iter2, ifs2, 0⟩] scope pos) spos) (tAsg t (gName i))) ∧
      ∀ σ H Q, tL X.K cl W (evE c (.comp2 elt p k args conds own p2 k2 args2 conds2 own2)) σ H Q → t σ H Q := by
  have eown : (own.map fun i => (X.N.getD i "", i)).map (·.2) = own := by rw [List.map_map]; exact List.map_id' own
  have hw := fun s H C cs fp => w.blk (scope := scope) s H C cs fp
  have hpts : ∀ (s : Shared) (H : Hp) (C : Addr) (cs : List (Str × Addr)) (fp : List Addr), PTs (X.blk s H scope (compEnvC scope cs C X.env) fp) ifs (ttOf X.K cl (fun _ _ _ _ => False) c conds) := fun s H C cs fp =>
    s_pts (X := X.blk s H scope (compEnvC scope cs C X.env) fp) (W := fun _ _ _ _ => False) hcl hcl2 (hc _ rfl rfl (hw s H C cs fp))
  have hpts2 : ∀ (s : Shared) (H : Hp) (C : Addr) (cs : List (Str × Addr)) (fp : List Addr), PTs (X.blk s H scope (compEnvC scope cs C X.env) fp) ifs2 (ttOf X.K cl (fun _ _ _ _ => False) c conds2) := fun s H C cs fp =>
    s_pts (X := X.blk s H scope (compEnvC scope cs C X.env) fp) (W := fun _ _ _ _ => False) hdl hdl2 (hd _ rfl rfl (hw s H C cs fp))
  have hvs : ∀ i ∈ own2, i ∈ (own.map fun i => (X.N.getD i "", i)).map (·.2) := fun i hi => by
    rw [eown]
    have := List.all_eq_true.mp hsub i hi
    simpa using this
  refine ⟨tLc2 (tI X.K cl W ri) (tG X.K p) (ttOf X.K cl (fun _ _ _ _ => False) c conds) (tI X.K cl (fun _ _ _ _ => False) fun ρ M => (evEs c args2 ρ M).bind fun ds M1 => VL.R.of (itD k2 ds) M1) (tG X.K p2) (ttOf X.K cl (fun _ _ _ _ => False) c conds2) (tE X.K cl (fun _ _ _ _ => False) (evE c elt)) own own2, fun pos => ?_, fun {i y py pos spos} h1 h2 h3 => ?_, fun σ H Q z => ?_⟩
  · have base := pe_lc2 (X := X) (elt := ee) (tg := tg) (iter := iter) (ifs := ifs) (tg1 := tg2) (iter1 := iter2) (ifs1 := ifs2) (scope := scope) (pos := pos) (own := own.map fun i => (X.N.getD i "", i)) (vs1 := own2) (g := tG X.K p) (tt := ttOf X.K cl (fun _ _ _ _ => False) c conds) (wi1 := tI X.K cl (fun _ _ _ _ => False) fun ρ M => (evEs c args2 ρ M).bind fun ds M1 => VL.R.of (itD k2 ds) M1) (g1 := tG X.K p2) (tt1 := ttOf X.K cl (fun _ _ _ _ => False) c conds2) (te := tE X.K cl (fun _ _ _ _ => False) (evE c elt)) w.calm w.nd hi (blk_ok w hb) hvs
      (fun s H C cs fp => s_pat (hw s H C cs fp) hp) hpts (fun s H C cs fp => hi2 _ rfl rfl (hw s H C cs fp)) (fun s H C cs fp => s_pat (hw s H C cs fp) hp2) hpts2 (fun s H C cs fp => he _ rfl rfl (hw s H C cs fp)) (set_ok hset) (fun env => set_ok hset2)
    rw [eown] at base
    exact base
  · have base := ps_setLc2 (X := X) (elt := ee) (tg := tg) (iter := iter) (ifs := ifs) (tg1 := tg2) (iter1 := iter2) (ifs1 := ifs2) (scope := scope) (pos := pos) (spos := spos) (own := own.map fun i => (X.N.getD i "", i)) (vs1 := own2) (g := tG X.K p) (tt := ttOf X.K cl (fun _ _ _ _ => False) c conds) (wi1 := tI X.K cl (fun _ _ _ _ => False) fun ρ M => (evEs c args2 ρ M).bind fun ds M1 => VL.R.of (itD k2 ds) M1) (g1 := tG X.K p2) (tt1 := ttOf X.K cl (fun _ _ _ _ => False) c conds2) (te := tE X.K cl (fun _ _ _ _ => False) (evE c elt)) w.calm w.nd h1 h2 h3 hi (blk_ok w hb) hvs
      (fun s H C cs fp => s_pat (hw s H C cs fp) hp) hpts (fun s H C cs fp => hi2 _ rfl rfl (hw s H C cs fp)) (fun s H C cs fp => s_pat (hw s H C cs fp) hp2) hpts2 (fun s H C cs fp => he _ rfl rfl (hw s H C cs fp)) (set_ok hset) (fun env => set_ok hset2)
    rw [eown] at base
    exact base
  obtain ⟨ι, F, ρ, M, r, z⟩ := z
  have z : Res X.K cl W ι F σ H ((ri ρ M).bind fun items M2 => ((compL (compO c elt p conds own p2 k2 args2 conds2 own2 ρ) items M2).nox).bind fun rs M3 => if rs.flatten.length ≤ sizeLine then VL.R.ok (D.lst rs.flatten) M3 else .st) (fun d _ ι' F' H' => ∀ p, OwRep X.K ι' F' H' p d → F' p = none → p ∉ ι' → H p = none → Q (.ref p) H') := by
    rw [hri, R.bind_assoc]
    simp only [evE] at z
    exact z
  refine ⟨ι, F, ρ, M, r, z.bind.imp fun items M2 ι2 F2 H2 s2 f2 m2 q J wk hl D hD => ?_⟩
  cases e : compL (compO c elt p conds own p2 k2 args2 conds2 own2 ρ) items M2 with
  | ok rs M3 =>
    rw [e] at q
    have q : Res X.K cl W ι2 F2 σ H2 (if rs.flatten.length ≤ sizeLine then VL.R.ok (VL.D.lst rs.flatten) M3 else .st) _ := q
    split at q
    · rename_i hlen
      refine comp2_run (r.step s2 f2 m2) wk hD e hlen (fun i hi => by
        have := List.all_eq_true.mp hpo i hi
        simpa using this) (fun i hi => by
        have := List.all_eq_true.mp hpo2 i hi
        simpa using this) (fun _ _ _ z => z) (fun _ _ _ z => z) (tt_imp hcl) (tt_imp hdl) fun ι' F' H' s f m o hF hn => ?_
      refine q ι' F' H' s f m D o hF hn ?_
      by_cases hh : H D = none
      · exact hh
      · exact absurd hD (s2.live D hh)
    · exact q.elim
  | ex _ _ => rw [e] at q; exact q.elim
  | st => rw [e] at q; exact q.elim
/-! ### looking at what is one's own -/
section
variable {K : PySem.W.Frag} {ι ι' : List Addr} {F F' B H H' : Hp} {ρ : Sl} {M : Mem} {σ : L2.St} {O : Addr → Prop}
theorem MemRep.nil (h : ι = []) : MemRep K ι F [] H := by
  subst h
  exact ⟨rfl, .nil, fun n a mo h => by simp at h⟩
theorem MemRep.nil' (m : MemRep K ι F [] H) : ι = [] := List.eq_nil_of_length_eq_zero m.len
/-- what is looked at is as if settled; what came of it is kept, if it gives nothing away -/
structure Back (K : PySem.W.Frag) (ι : List Addr) (F B H : Hp) : Prop where
  go : ∀ ι' F' H' M', Stp ι B H ι' F' H' → FSub F' H' → MemRep K ι' F' M' H' → memOk M' = true → ∃ F2, Stp ι F H ι' F2 H' ∧ FSub F2 H' ∧ MemRep K ι' F2 M' H' ∧ (∀ v d, d.noL = true → Rep K ι' F' v d → Rep K ι' F2 v d) ∧
    (∀ v d T, d.tupNoL = true → DRep K ι' F' H' .all v d T → DRep K ι' F2 H' .all v d T) ∧ ∀ T, New ι' F' H H' T → New ι' F2 H H' T
theorem sqT_keep {F2 : Hp} (q : ∀ a u, F' a = some u → ldO u = false → F2 a = some u) {a : Addr} {xs : List V} (h : SqT K F' a xs) : SqT K F2 a xs := by
  rcases h with (h | ⟨o, h⟩) | h
  · exact .inl (.inl (q _ _ h rfl))
  · exact .inl (.inr ⟨o, q _ _ h rfl⟩)
  · exact .inr h
mutual
theorem noL_rep {F2 : Hp} (q : ∀ a u, F' a = some u → ldO u = false → F2 a = some u) : ∀ {d : D} {v : V}, d.noL = true → Rep K ι F' v d → Rep K ι F2 v d
  | .non, _, _, .non => .non
  | .bl _, _, _, .bl _ => .bl _
  | .int _, _, _, .int _ => .int _
  | .str _, _, _, .str _ => .str _
  | .tup ds, _, hn, .tup h r => .tup (q _ _ h rfl) (noLs_rep q hn r)
  | .ktup ds, _, hn, _ => by cases hn
  | .lst ds, _, hn, _ => by cases hn
  | .dic _ ds, _, hn, _ => by cases hn
  | .ins _ _, _, hn, _ => by cases hn
  | .ref _, _, hn, .ref h => .ref h
theorem noLs_rep {F2 : Hp} (q : ∀ a u, F' a = some u → ldO u = false → F2 a = some u) : ∀ {d : List D} {v : List V}, D.noLs d = true → Reps K ι F' v d → Reps K ι F2 v d
  | [], _, _, .nil => .nil
  | d :: ds, _, hn, .cons h r => by
    simp only [D.noLs, Bool.and_eq_true] at hn
    exact .cons (noL_rep q hn.1 h) (noLs_rep q hn.2 r)
end
mutual
theorem tupNoL_rep {F2 : Hp} (q : ∀ a u, F' a = some u → ldO u = false → F2 a = some u) : ∀ {d : D} {v : V} {T : Addr → Prop}, d.tupNoL = true → DRep K ι F' H .all v d T → DRep K ι F2 H .all v d T
  | d, v, T, hn, .fz r e => by
    have e := e.resolve_left (by decide)
    refine .fz (noL_rep q ?_ r) (.inr e)
    cases d <;> first | rfl | exact hn | cases e
  | .lst ds, _, T, hn, .lst n e s t ts r => .lst n e s t ts (tupNoLs_rep q hn r)
  | .dic _ ds, _, T, hn, .dic n e s t ts r => .dic n e s t ts (tupNoLk_rep q hn r)
theorem tupNoLs_rep {F2 : Hp} (q : ∀ a u, F' a = some u → ldO u = false → F2 a = some u) : ∀ {d : List D} {v : List V} {T : Addr → Prop}, D.tupNoLs d = true → DReps K ι F' H .all v d T → DReps K ι F2 H .all v d T
  | _, _, _, _, .nil => .nil
  | d :: ds, _, _, hn, .cons h r a b c => by
    simp only [D.tupNoLs, Bool.and_eq_true] at hn
    exact .cons (tupNoL_rep q hn.1 h) (tupNoLs_rep q hn.2 r) a b c
theorem tupNoLk_rep {F2 : Hp} (q : ∀ a u, F' a = some u → ldO u = false → F2 a = some u) : ∀ {d : List (D × D)} {v : List (D × V)} {T : Addr → Prop}, D.tupNoLk d = true → DRepk K ι F' H .all v d T → DRepk K ι F2 H .all v d T
  | _, _, _, _, .nil => .nil
  | (k, d) :: ds, _, _, hn, .cons h r a b c => by
    simp only [D.tupNoLk, Bool.and_eq_true] at hn
    exact .cons (tupNoL_rep q hn.1 h) (tupNoLk_rep q hn.2 r) a b c
end
theorem SRO.view (r : SRO K ι F O ρ M σ H) : ∃ B, SR K ι B (viewS ρ) M σ H ∧ Back K ι F B H := by
  classical
  have hF : ∀ a u, F a = some u → (if O a then (H a).filter ldO else F a) = some u := fun a u h => by
    rw [if_neg (fun z => by rw [(r.own a z).1] at h; cases h)]; exact h
  have hO : ∀ a u, O a → H a = some u → ldO u = true → (if O a then (H a).filter ldO else F a) = some u := fun a u h e l => by
    rw [if_pos h, e]; simp [Option.filter, l]
  have hB : ∀ a u, (if O a then (H a).filter ldO else F a) = some u → (O a ∧ H a = some u ∧ ldO u = true) ∨ (¬ O a ∧ F a = some u) := fun a u h => by
    by_cases z : O a
    · rw [if_pos z] at h
      simp only [Option.filter_eq_some_iff] at h
      exact .inl ⟨z, h⟩
    · rw [if_neg z] at h; exact .inr ⟨z, h⟩
  refine ⟨fun a => if O a then (H a).filter ldO else F a, ⟨fun _ => False, fun a u h => ?_, ⟨r.mem.len, r.mem.nd, fun n a mo h1 h2 => ?_⟩, by simp [viewS, r.len], fun i d h => ?_, fun _ h => h.elim, fun _ _ => False, fun i m d h => ?_, fun _ _ h => h, fun _ _ _ h => h.elim⟩, ⟨fun ι' F' H' M' s f m hM => ?_⟩⟩
  · rcases hB a u h with ⟨_, h, _⟩ | ⟨_, h⟩
    · exact .inl h
    · exact r.sub a u h
  · obtain ⟨q1, q2⟩ := r.mem.at_ n a mo h1 h2
    refine ⟨?_, q2.mono (fun _ _ h => h) hF fun _ h => h⟩
    show (if O a then (H a).filter ldO else F a) = none
    rw [if_neg (fun z => (r.own a z).2.1 (List.mem_of_getElem? h1))]; exact q1
  · unfold viewS at h
    rw [List.getElem?_map, Option.map_eq_some_iff] at h
    obtain ⟨x, e1, e2⟩ := h
    cases x with
    | un => cases e2
    | fz d' =>
      cases e2
      obtain ⟨v, q1, q2⟩ := r.fz i d e1
      exact ⟨v, q1, q2.mono (fun _ _ h => h) hF⟩
    | ow m d' =>
      cases e2
      obtain ⟨S, h1, h2, h3⟩ := r.ow
      obtain ⟨v, q1, q2⟩ := h1 i m d e1
      exact ⟨v, q1, q2.settle hF fun a u h e l => hO a u (h2 i a h) e l⟩
  · unfold viewS at h
    rw [List.getElem?_map, Option.map_eq_some_iff] at h
    obtain ⟨x, e1, e2⟩ := h
    cases x <;> cases e2
  · have k1 : ∀ a, O a → F' a = none ∨ ∃ u, F' a = some u ∧ ldO u = true := fun a h => by
      cases e : F' a with
      | none => exact .inl rfl
      | some u =>
        refine .inr ⟨u, rfl, ?_⟩
        obtain ⟨w, ew, lw⟩ := (r.own a h).2.2.ex
        have := s.subF a w (hO a w h ew lw)
        rw [e] at this; cases this
        exact lw
    have k2 : ∀ a u, F' a = some u → ldO u = false → (if O a then none else F' a) = some u := fun a u h l => by
      rw [if_neg (fun z => by
        rcases k1 a z with q | ⟨w, q, l'⟩
        · rw [h] at q; cases q
        · rw [h] at q; cases q; rw [l] at l'; cases l')]
      exact h
    refine ⟨fun a => if O a then none else F' a, ⟨s.pre, fun a u h => ?_, fun a h n e => ?_, s.keep, s.live⟩, fun a u h => ?_, ⟨m.len, m.nd, fun n a mo h1 h2 => ?_⟩, fun v d hn hv => noL_rep k2 hn hv, fun v d T hn hv => tupNoL_rep k2 hn hv, fun T n => ⟨fun a ha => ?_⟩⟩
    · have n : ¬ O a := fun z => by rw [(r.own a z).1] at h; cases h
      show (if O a then none else F' a) = some u
      rw [if_neg n]
      exact s.subF a u (hF a u h)
    · show (if O a then none else F' a) = none
      by_cases z : O a
      · rw [if_pos z]
      · rw [if_neg z]; exact s.newF a h n (by rw [if_neg z]; exact e)
    · have h : (if O a then none else F' a) = some u := h
      by_cases z : O a
      · rw [if_pos z] at h; cases h
      · rw [if_neg z] at h; exact f a u h
    · obtain ⟨q1, q2⟩ := m.at_ n a mo h1 h2
      refine ⟨?_, ?_⟩
      · show (if O a then none else F' a) = none
        split
        · rfl
        · exact q1
      · have hn : mo.noL = true := List.all_eq_true.mp hM mo (List.mem_of_getElem? h2)
        cases mo with
        | lst ds =>
          obtain ⟨vs, e, rr⟩ := q2
          exact ⟨vs, e, noLs_rep k2 hn rr⟩
        | _ => cases hn
    · obtain ⟨h1, h2, h3, h4⟩ := n.at_ a ha
      refine ⟨?_, h2, h3, h4⟩
      show (if O a then none else F' a) = none
      split
      · rfl
      · exact h1
theorem borR_ok {α : Type} {M : Mem} {ok : α → Bool} {x : VL.R α} (h : borR M ok x ≠ .st) : (∃ d M1, x = .ok d M1 ∧ ok d = true ∧ memOk M1 = true ∧ borR M ok x = .ok d M1) ∨ ∃ c M1, x = .ex c M1 ∧ memOk M1 = true ∧ borR M ok x = .ex c M1 := by
  unfold borR at h ⊢
  cases x with
  | ok d M1 =>
    dsimp only at h ⊢
    split at h
    · rename_i e2
      rw [if_pos e2]
      exact .inl ⟨d, M1, rfl, e2.1, e2.2, rfl⟩
    · exact absurd rfl h
  | ex c M1 =>
    dsimp only at h ⊢
    split at h
    · rename_i e2
      rw [if_pos e2]
      exact .inr ⟨c, M1, rfl, e2, rfl⟩
    · exact absurd rfl h
  | st => exact absurd rfl h
/-- any reading of what is looked at -/
theorem res_bor {α : Type} {cl : Nat → Value} {W : WXX} {ok : α → Bool} {re : Sl → Mem → VL.R α} {Pd Pd' : α → Mem → List Addr → Hp → Hp → Prop} (r : SR K ι F ρ M σ H) (z : Res K cl W ι F σ H (borR M ok (re (viewS ρ) M)) Pd)
    (q : ∀ d M' ι' F' F2 H', ok d = true → (∀ v d, d.noL = true → Rep K ι' F' v d → Rep K ι' F2 v d) → (∀ v d T, d.tupNoL = true → DRep K ι' F' H' .all v d T → DRep K ι' F2 H' .all v d T) → (∀ T, New ι' F' H H' T → New ι' F2 H H' T) → Pd d M' ι' F2 H' → Pd' d M' ι' F' H') :
    ∃ B, SR K ι B (viewS ρ) M σ H ∧ Res K cl W ι B σ H (re (viewS ρ) M) Pd' := by
  have h := borR_ok (x := re (viewS ρ) M) (M := M) (ok := ok) fun e => by rw [e] at z; exact z
  obtain ⟨O, r⟩ := r
  obtain ⟨B, rB, bk⟩ := r.view
  refine ⟨B, rB, ?_⟩
  rcases h with ⟨d, M1, e1, e2, eM, e3⟩ | ⟨c, M1, e1, eM, e3⟩
  · rw [e3] at z
    rw [e1]
    intro ι' F' H' s f m
    obtain ⟨F2, s2, f2, m2, g1, g2, g3⟩ := bk.go ι' F' H' M1 s f m eM
    exact q d M1 ι' F' F2 H' e2 g1 g2 g3 (z ι' F2 H' s2 f2 m2)
  · rw [e3] at z
    rw [e1]
    intro ι' F' H' s f m
    obtain ⟨F2, s2, f2, m2, g1, g2, g3⟩ := bk.go ι' F' H' M1 s f m eM
    exact z ι' F2 H' s2 f2 m2
end
theorem tE_bor {K : PySem.W.Frag} {re : Sl → Mem → VL.R D} {σ : L2.St} {H : Hp} {Q : VK} (z : tE K cl W (fun ρ M => borR M D.noL (re (viewS ρ) M)) σ H Q) : tE K cl W re σ H Q := by
  obtain ⟨ι, F, ρ, M, r, z⟩ := z
  obtain ⟨B, rB, h⟩ := res_bor (Pd' := fun d _ ι' F' H' => ∀ v, Rep K ι' F' v d → Q v H') r z fun d _ ι' F' F2 H' ok g1 g2 g3 h v hv => h v (g1 v d ok hv)
  exact ⟨ι, B, viewS ρ, M, rB, h⟩
theorem tO_bor {K : PySem.W.Frag} {re : Sl → Mem → VL.R (Md × D)} {σ : L2.St} {H : Hp} {Q : VK} (z : tO K cl W (fun ρ M => borR M okB (re (viewS ρ) M)) σ H Q) : tO K cl W re σ H Q := by
  obtain ⟨ι, F, ρ, M, r, z⟩ := z
  obtain ⟨B, rB, h⟩ := res_bor (Pd' := fun d _ ι' F' H' => ∀ v T, DRep K ι' F' H' d.1 v d.2 T → New ι' F' H H' T → Q v H') r z fun d _ ι' F' F2 H' ok g1 g2 g3 h v T hv hn => by
    refine h v T ?_ (g3 T hn)
    unfold okB at ok
    simp only [Bool.or_eq_true, Bool.and_eq_true, decide_eq_true_eq] at ok
    rcases ok with ok | ⟨ok, ok2⟩
    · have hl : d.2.isLD = false := by
        cases e : d.2 <;> first | rfl | (rw [e] at ok; cases ok)
      exact .fz (g1 v _ ok (hv.flat (.inr hl))) (.inr hl)
    · rw [ok] at hv ⊢
      exact g2 v _ T ok2 hv
  exact ⟨ι, B, viewS ρ, M, rB, h⟩
theorem tT_bor {K : PySem.W.Frag} {re : Sl → Mem → VL.R D} {σ : L2.St} {H : Hp} {Q : Bool → Hp → Prop} (z : tT K cl W (fun ρ M => (borR M D.noL (re (viewS ρ) M)).bind fun d M1 => R.of (truth d) M1) σ H Q) : tT K cl W (fun ρ M => (re ρ M).bind fun d M1 => R.of (truth d) M1) σ H Q := by
  obtain ⟨ι, F, ρ, M, r, z⟩ := z
  dsimp only at z
  have hne : borR M D.noL (re (viewS ρ) M) ≠ .st := fun e => by rw [e] at z; exact z
  obtain ⟨B, rB, h⟩ := res_bor (Pd' := fun b _ _ _ H' => Q b H') (re := fun ρ M => (re ρ M).bind fun d M1 => R.of (truth d) M1) (ok := fun _ => true) (Pd := fun b _ _ _ H' => Q b H') r (by
      have e : borR M (fun _ => true) ((re (viewS ρ) M).bind fun d M1 => R.of (truth d) M1) = (borR M D.noL (re (viewS ρ) M)).bind fun d M1 => R.of (truth d) M1 := by
        rcases borR_ok hne with ⟨d, M1, e1, _, eM, e3⟩ | ⟨c, M1, e1, eM, e3⟩
        · rw [e3, e1]
          simp only [R.bind_ok]
          cases e4 : truth d with
          | none => rw [e3, R.bind_ok, e4] at z; exact z.elim
          | some b => simp only [R.of_some, borR, eM, and_self, if_true]
        · rw [e3, e1]
          simp only [R.bind_ex, borR, eM, if_true]
      rw [e]
      exact z) fun d _ ι' F' F2 H' ok g1 g2 g3 h => h
  exact ⟨ι, B, viewS ρ, M, rB, h⟩
/-! ### dicts, read -/
theorem nameE_base {o : Expr} {m : Str} {env : Env} (h : nameE o = true) : attributeBase o m env (eval o env) = eval o env := by
  cases o <;> first | (cases h; done) | rfl
section
variable {K : PySem.W.Frag} {ι : List Addr} {F H : Hp} {y : V} {a : Addr} {l : List (D × V)} {kvs : List (D × D)} {d : D}
theorem isD_rep {t : Bool} (f : FSub F H) (h : DicAt F a t l) : IsD H a := by
  cases t
  · obtain ⟨ks, e, _⟩ := h.k
    exact .inl ⟨ks, f.rdK e⟩
  · obtain ⟨ks, e, _⟩ := h.t
    exact .inr ⟨ks, f.rdT e⟩
/-- the two kinds of keys -/
theorem key_kind {t : Bool} (hy : Rep K ι F y d) (ok : okK t d = true) : (t = false ∧ ∃ k : Key, d = keyD k ∧ y = kV k) ∨ (t = true ∧ ∃ (k : List Key) (b : Addr), d = tkeyD k ∧ y = .ref b ∧ F b = some (.tup (k.map kV))) := by
  cases t
  · exact .inl ⟨rfl, flat_key hy ok⟩
  · refine .inr ⟨rfl, ?_⟩
    cases d <;> first | (cases ok; done) | skip
    cases hy with
    | tup e r =>
      obtain ⟨ks, rfl, rfl⟩ := tup_key r ok
      exact ⟨ks, _, rfl, rfl, e⟩
/-- what is there at a key -/
theorem dic_get {t : Bool} (f : FSub F H) (h : Rep K ι F (.ref a) (.dic t kvs)) (hy : Rep K ι F y d) (ok : okK t d = true) : ∃ o, DGet H a y o ∧ ((lookD d kvs = none ∧ o = none) ∨ ∃ e v, lookD d kvs = some e ∧ o = some v ∧ Rep K ι F v e) := by
  cases h with
  | dic at_ rr =>
    rcases key_kind hy ok with ⟨rfl, k, rfl, rfl⟩ | ⟨rfl, k, b, rfl, rfl, hb⟩
    · obtain ⟨ks, e, rfl⟩ := at_.k
      refine ⟨valV ks k, .inl ⟨ks, k, f.rdK e, rfl, rfl⟩, ?_⟩
      rcases repK_look keyD_inj (k := k) rr with ⟨e1, e2⟩ | ⟨e, v, e1, e2, q⟩
      · exact .inl ⟨e1, e2⟩
      · exact .inr ⟨e, v, e1, e2, q⟩
    · obtain ⟨ks, e, rfl⟩ := at_.t
      refine ⟨valV ks k, .inr ⟨ks, k, b, f.rdT e, rfl, f.tup hb, rfl⟩, ?_⟩
      rcases repK_look tkeyD_inj (k := k) rr with ⟨e1, e2⟩ | ⟨e, v, e1, e2, q⟩
      · exact .inl ⟨e1, e2⟩
      · exact .inr ⟨e, v, e1, e2, q⟩
end
section
variable {c : Cfg} {xd xk xo : Ex} {ed ek eo : Expr} {ap cp pos : Pos}
theorem s_dget1 (w : XW P nm cl n X sc W) (hb : nameE ed = true) (hl : (ap.endLine == cp.line) = true) (hn : nst ek = true) (hd : PE X ed (tE X.K cl W (evE c xd))) (hk : PE X ek (tE X.K cl W (evE c xk))) :
    PE X (.Call (.Attribute ed "get" ap) [ek] [] cp) (tE X.K cl W (evE c (.dget xd xk none))) := by
  have hu := w.hu
  refine PE.weak (pe_dget1 (by omega) hd hk ⟨nameE_base hb, by rw [star_ok hn]; rfl, hl, by rw [star_ok hn]; rfl⟩) fun σ H Q z => ?_
  obtain ⟨ι, F, ρ, M, r, z⟩ := z
  simp only [evE] at z
  refine ⟨ι, F, ρ, M, r, z.bind.imp fun x M1 ι1 F1 H1 s1 f1 m1 q1 v hv => ?_⟩
  cases hv with
  | dic at_ rr =>
    have r1 := r.step s1 f1 m1
    refine ⟨_, rfl, isD_rep f1 at_, ι1, F1, ρ, M1, r1, Res.imp (Res.bind q1) fun y M2 ι2 F2 H2 s2 f2 m2 q2 u hu => ?_⟩
    split at q2
    · rename_i ok
      obtain ⟨o, g, h⟩ := dic_get f2 (s2.rep (.dic at_ rr)) hu ok
      refine ⟨o, g, ?_⟩
      have q3 := Res.of_ok q2 f2 m2
      rcases h with ⟨e1, rfl⟩ | ⟨e, v, e1, rfl, hv⟩
      · rw [e1] at q3; exact q3 _ .non
      · rw [e1] at q3; exact q3 _ hv
    · exact q2.elim
  | _ => exact q1.elim
theorem s_dget2 (w : XW P nm cl n X sc W) (hb : nameE ed = true) (hl : (ap.endLine == cp.line) = true) (hn : nst ek = true) (hn2 : nst eo = true) (hd : PE X ed (tE X.K cl W (evE c xd))) (hk : PE X ek (tE X.K cl W (evE c xk))) (ho : PE X eo (tE X.K cl W (evE c xo))) :
    PE X (.Call (.Attribute ed "get" ap) [ek, eo] [] cp) (tE X.K cl W (evE c (.dget xd xk (some xo)))) := by
  have hu := w.hu
  refine PE.weak (pe_dget2 (by omega) hd hk ho ⟨nameE_base hb, by rw [starE_two hn hn2]; rfl, hl, by rw [starE_two hn hn2]; rfl⟩) fun σ H Q z => ?_
  obtain ⟨ι, F, ρ, M, r, z⟩ := z
  simp only [evE] at z
  refine ⟨ι, F, ρ, M, r, z.bind.imp fun x M1 ι1 F1 H1 s1 f1 m1 q1 v hv => ?_⟩
  cases hv with
  | dic at_ rr =>
    have r1 := r.step s1 f1 m1
    refine ⟨_, rfl, isD_rep f1 at_, ι1, F1, ρ, M1, r1, Res.imp (Res.bind q1) fun y M2 ι2 F2 H2 s2 f2 m2 q2 u hu => ?_⟩
    have r2 := r1.step s2 f2 m2
    split at q2
    · rename_i ok
      refine ⟨ι2, F2, ρ, M2, r2, Res.imp (Res.bind q2) fun z M3 ι3 F3 H3 s3 f3 m3 q3 t ht => ?_⟩
      obtain ⟨o, g, h⟩ := dic_get f3 (s3.rep (s2.rep (.dic at_ rr))) (s3.rep hu) ok
      refine ⟨o, g, ?_⟩
      have q4 := Res.of_ok q3 f3 m3
      rcases h with ⟨e1, rfl⟩ | ⟨e, v, e1, rfl, hv⟩
      · rw [e1] at q4; exact q4 _ ht
      · rw [e1] at q4; exact q4 _ hv
    · exact q2.elim
  | _ => exact q1.elim
theorem pix_no {b : Expr} (h : pixD b = true) : NoSl b := by
  cases b <;> first | (cases h; done) | exact fun _ _ => rfl
theorem s_dix (w : XW P nm cl n X sc W) (hp : pixD ek = true) (hd : PE X ed (tE X.K cl W (evE c xd))) (hk : PE X ek (tE X.K cl W (evE c xk))) : PE X (.Subscript ed ek pos) (tE X.K cl W (evE c (.dix xd xk))) := by
  have hu := w.hu
  refine PE.weak (pe_dget (by omega) hd hk (pix_no hp)) fun σ H Q z => ?_
  obtain ⟨ι, F, ρ, M, r, z⟩ := z
  simp only [evE] at z
  refine ⟨ι, F, ρ, M, r, z.bind.imp fun x M1 ι1 F1 H1 s1 f1 m1 q1 v hv => ?_⟩
  cases hv with
  | dic at_ rr =>
    have r1 := r.step s1 f1 m1
    refine ⟨ι1, F1, ρ, M1, r1, Res.imp (Res.bind q1) fun y M2 ι2 F2 H2 s2 f2 m2 q2 u hu => ?_⟩
    split at q2
    · rename_i ok
      obtain ⟨o, g, h⟩ := dic_get f2 (s2.rep (.dic at_ rr)) hu ok
      rcases h with ⟨e1, rfl⟩ | ⟨e, v, e1, rfl, hv⟩
      · rw [e1] at q2; exact q2.elim
      · rw [e1] at q2
        exact ⟨_, v, rfl, g, Res.of_ok q2 f2 m2 _ hv⟩
    · exact q2.elim
  | _ => exact q1.elim
theorem s_din (w : XW P nm cl n X sc W) {ng : Bool} (hm : behindInMarks (pyCmp (if ng then .notin else .isin)) ed = false) (hd : PE X ed (tE X.K cl W (evE c xd))) (hk : PE X ek (tE X.K cl W (evE c xk))) :
    PE X (.Compare ek [pyCmp (if ng then .notin else .isin)] [ed] pos) (tE X.K cl W (evE c (.din xk xd ng))) ∧ PT X (.Compare ek [pyCmp (if ng then .notin else .isin)] [ed] pos) (tT X.K cl W (evT c (.din xk xd ng))) := by
  have hu := w.hu
  have key : ∀ {σ : L2.St} {H : Hp} {Q : VK}, tE X.K cl W (evE c (.din xk xd ng)) σ H Q → tE X.K cl W (evE c xk) σ H fun y H1 => tE X.K cl W (evE c xd) σ H1 fun x H2 => ∃ a o, x = .ref a ∧ DGet H2 a y o ∧ Q (.bl (o.isSome != ng)) H2 := fun {σ H Q} z => by
    obtain ⟨ι, F, ρ, M, r, z⟩ := z
    simp only [evE] at z
    refine ⟨ι, F, ρ, M, r, z.bind.imp fun y M1 ι1 F1 H1 s1 f1 m1 q1 u hu => ?_⟩
    refine ⟨ι1, F1, ρ, M1, r.step s1 f1 m1, Res.imp (Res.bind q1) fun x M2 ι2 F2 H2 s2 f2 m2 q2 v hv => ?_⟩
    cases hv with
    | dic at_ rr =>
      dsimp only at q2
      split at q2
      · rename_i ok
        obtain ⟨o, g, h⟩ := dic_get f2 (.dic at_ rr) (s2.rep hu) ok
        have q3 := Res.of_ok q2 f2 m2 _ (.bl _)
        refine ⟨_, o, rfl, g, ?_⟩
        rcases h with ⟨e1, rfl⟩ | ⟨e, v, e1, rfl, hv⟩
        · rw [e1] at q3; exact q3
        · rw [e1] at q3; exact q3
      · exact q2.elim
    | _ => exact q2.elim
  have go : ∀ {σ : L2.St} {H : Hp} {Q : VK}, tE X.K cl W (evE c (.din xk xd ng)) σ H Q → (if ng = true then tDNotIn (tE X.K cl W (evE c xk)) (tE X.K cl W (evE c xd)) else tDIn (tE X.K cl W (evE c xk)) (tE X.K cl W (evE c xd))) σ H Q := fun {σ H Q} z => by
    obtain ⟨ι, F, ρ, M, r, z⟩ := key z
    cases ng <;> (
      refine ⟨ι, F, ρ, M, r, z.imp fun y M1 ι1 F1 H1 s1 f1 m1 q1 u hu => ?_⟩
      obtain ⟨ι, F, ρ, M, r, z⟩ := q1 u hu
      refine ⟨ι, F, ρ, M, r, z.imp fun y M1 ι1 F1 H1 s1 f1 m1 q1 u hu => ?_⟩
      obtain ⟨a, o, e, g, q⟩ := q1 u hu
      exact ⟨a, o, e, g, by simpa using q⟩)
  have bl : ∀ {σ : L2.St} {H : Hp} {Q : Bool → Hp → Prop}, tT X.K cl W (evT c (.din xk xd ng)) σ H Q → tE X.K cl W (evE c (.din xk xd ng)) σ H fun v H1 => ∃ b, v = .bl b ∧ Q b H1 := fun {σ H Q} z => by
    obtain ⟨ι, F, ρ, M, r, z⟩ := z
    refine ⟨ι, F, ρ, M, r, ?_⟩
    simp only [evT, evE, R.bind_assoc] at z ⊢
    cases e1 : evE c xk ρ M with
    | st => rw [e1] at z; exact z
    | ex _ _ => rw [e1] at z; exact z
    | ok y M1 =>
      rw [e1] at z
      rw [R.bind_ok] at z ⊢
      cases e2 : evE c xd ρ M1 with
      | st => rw [e2] at z; exact z
      | ex _ _ => rw [e2] at z; exact z
      | ok x M2 =>
        rw [e2] at z
        rw [R.bind_ok] at z ⊢
        cases x with
        | dic t kvs =>
          dsimp only at z ⊢
          by_cases ok : okK t y = true
          · rw [if_pos ok] at z ⊢
            intro ι' F' H' s' f' m' v hv
            cases hv
            exact ⟨_, rfl, z ι' F' H' s' f' m'⟩
          · rw [if_neg ok] at z; exact z.elim
        | _ => exact z.elim
  cases ng with
  | false => exact ⟨PE.weak (pe_cmp (pc_din (by omega) hk hd) hm) fun σ H Q z => go z, PT.weak (pt_cmp (pc_din (by omega) hk hd) hm) fun σ H Q z => go (bl z)⟩
  | true => exact ⟨PE.weak (pe_cmp (pc_dnotin (by omega) hk hd) hm) fun σ H Q z => go z, PT.weak (pt_cmp (pc_dnotin (by omega) hk hd) hm) fun σ H Q z => go (bl z)⟩
end
/-! ### list(range(..)) -/
theorem rgV_rep {K : PySem.W.Frag} {ι : List Addr} {F : Hp} (a b : Int) : Reps K ι F (L2.rgV a b) (rngD a b) := by
  unfold L2.rgV rngD
  generalize List.range (b - a).toNat = l
  induction l with
  | nil => exact .nil
  | cons i l ih => exact .cons (.int _) ih
/-- a new list of settled parts -/
def tNL (K : PySem.W.Frag) (cl : Nat → Value) (W : WXX) (r : Sl → Mem → VL.R (List D)) : TE := fun σ H Q => ∃ ι F ρ M, SR K ι F ρ M σ H ∧ Res K cl W ι F σ H (r ρ M) fun its _ ι' F' H' => ∀ p vs, H' p = none → Reps K ι' F' vs its → Q (.ref p) (upd H' p (.lst vs))
theorem tNL_of {K : PySem.W.Frag} {r : Sl → Mem → VL.R (List D)} {σ : L2.St} {H : Hp} {Q : VK} (z : tE K cl W (fun ρ M => (r ρ M).bind fun its M1 => .ok (.lst its) M1) σ H Q) : tNL K cl W r σ H Q := by
  obtain ⟨ι, F, ρ, M, sr, z⟩ := z
  exact ⟨ι, F, ρ, M, sr, (Res.bind z).imp fun its M1 ι1 F1 H1 s1 f1 m1 q p vs hp rv => fin_new f1 m1 (fun F' H' v s f m r => q _ _ _ s f m v r) hp (rep_new_lst f1 hp rv)⟩
theorem s_lrng (w : XW P nm cl n X sc W) {x y : Str} {p p2 pos pos2 : Pos} {es : List Expr} {xs : List Ex} (h1 : x = "list") (h2 : glB sc x = true) (h3 : y = "range") (h4 : glB sc y = true) (hl : xs.length = 1 ∨ xs.length = 2) (hm : mEs X.N nm xs sc es = true)
    (h : ∀ a ∈ xs, ∀ e, mE X.N nm a sc e = true → PE X e (tE X.K cl W (evE c a))) : PE X (.Call (.Name x p) [.Call (.Name y p2) es [] pos2] [] pos) (tNL X.K cl W fun ρ M => (evEs c xs ρ M).bind fun ds M1 => R.of (itD (if ds.length = 1 then .rng1 else .rng2) ds) M1) := by
  obtain ⟨g1, _⟩ := w.gl h2
  obtain ⟨g2, _⟩ := w.gl h4
  subst h1 h3
  have m1 : X.mg "list" = none := w.fx.blt _ (by decide +kernel)
  have m2 : X.mg "range" = none := w.fx.blt _ (by decide +kernel)
  match xs, es, hl, hm with
  | [a], [e], _, hm =>
    simp only [mEs, Bool.and_eq_true] at hm
    have pe := h a List.mem_cons_self e hm.1.2
    refine PE.weak (pe_listRg w.calm g1 m1 (prg_1 g2 m2 pe (starE_one hm.1.1)) rfl) fun σ H Q z => ?_
    obtain ⟨ι, F, ρ, M, r, z⟩ := z
    simp only [evEs, R.bind_assoc, R.bind_ok] at z
    refine ⟨ι, F, ρ, M, r, z.bind.imp fun d M1 ι1 F1 H1 s1 f1 m1 q v hv => ?_⟩
    rw [if_pos (show [d].length = 1 from rfl)] at q
    cases d with
    | int i =>
      rw [hv.getInt]
      simp only [itD] at q
      split at q
      · rename_i hb
        rw [sizeLine_eq] at hb
        exact ⟨i, rfl, ⟨by omega, by omega, by omega, by omega, by omega⟩, fun p hp => Res.of_ok q f1 m1 p _ hp (rgV_rep 0 i)⟩
      · exact q.elim
    | _ => exact q.elim
  | [a, b], [e, e2], _, hm =>
    simp only [mEs, Bool.and_eq_true] at hm
    have pe := h a List.mem_cons_self e hm.1.2
    have pe2 := h b (List.mem_cons_of_mem _ List.mem_cons_self) e2 hm.2.1.2
    refine PE.weak (pe_listRg w.calm g1 m1 (prg_2 g2 m2 pe pe2 (by rw [starE_two hm.1.1 hm.2.1.1, starE_one hm.2.1.1]) (starE_one hm.2.1.1) (by rw [starE_one hm.2.1.1]; rfl)) rfl) fun σ H Q z => ?_
    obtain ⟨ι, F, ρ, M, r, z⟩ := z
    simp only [evEs, R.bind_assoc, R.bind_ok] at z
    refine ⟨ι, F, ρ, M, r, z.bind.imp fun d M1 ι1 F1 H1 s1 f1 m1 q v hv => ?_⟩
    refine ⟨ι1, F1, ρ, M1, r.step s1 f1 m1, Res.imp (Res.bind q) fun d2 M2 ι2 F2 H2 s2 f2 m2 q v2 hv2 => ?_⟩
    rw [if_neg (show ¬ [d, d2].length = 1 by simp)] at q
    cases d with
    | int i =>
      cases d2 with
      | int j =>
        rw [hv.getInt, hv2.getInt]
        simp only [itD] at q
        split at q
        · rename_i hb
          rw [sizeLine_eq] at hb
          exact ⟨i, j, rfl, rfl, ⟨by omega, by omega, by omega, by omega, by omega⟩, fun p hp => Res.of_ok q f2 m2 p _ hp (rgV_rep i j)⟩
        · exact q.elim
      | _ => exact q.elim
    | _ => exact q.elim
  | [], _, hl, _ => exact absurd hl (by simp)
  | _ :: _ :: _ :: _, _, hl, _ => exact absurd hl (by simp)
  | [_], [], _, hm => simp [mEs] at hm
  | [_], _ :: _ :: _, _, hm => simp [mEs] at hm
  | [_, _], [], _, hm => simp [mEs] at hm
  | [_, _], [_], _, hm => simp [mEs] at hm
  | [_, _], _ :: _ :: _ :: _, _, hm => simp [mEs] at hm
end
end VL
/-! V7: the theorem of expressions -/
namespace VL
open PySem PySem.Spec PyProof.Rows L2
section
variable {P : Prog} {nm : Nms} {cl : Nat → Value} {n : Nat}
theorem mE_nst {N : List Str} {sc : Scope} : ∀ {x : Ex} {e : Expr}, mE N nm x sc e = true → nst e = true
  | .bor a, e, h => by
    unfold mE at h
    exact mE_nst h
  | x, e, h => by
    cases e <;> first | rfl | skip
    exfalso
    cases x <;> (unfold mE at h; first | (cases h; done) | skip)
    have := mE_nst h
    cases this
theorem sO {x : Ex} {X : Cx} {sc : Scope} {W : WXX} {o : Option Expr} (ih : ∀ e, mE X.N nm x sc e = true → PE X e (tE X.K cl W (evE (cfgN P n) x))) (h : mO X.N nm x sc o = true) : PO X o (tPt X.K cl W x (evE (cfgN P n) x)) := by
  cases o with
  | none =>
    cases x <;> first | (simp [mO] at h; done) | skip
    rename_i d
    cases d <;> first | (simp [mO] at h; done) | exact s_po_none
  | some e =>
    unfold mO at h; simp only [Bool.and_eq_true] at h
    refine s_po_some (fun d => ?_) (ih e h.1)
    have h2 := h.2
    clear h
    cases x <;> first | rfl | skip
    rename_i k
    cases k <;> first | rfl | cases h2
theorem evAnd_cc {c : Cfg} {x y : Ex} {ys : List Ex} {ρ : Sl} {M : Mem} : evAnd c (x :: y :: ys) ρ M = (evE c x ρ M).bind fun d M1 => (VL.R.of (truth d) M1).bind fun t M2 => if t = true then evAnd c (y :: ys) ρ M2 else .ok d M2 := by
  rw [evAnd]
theorem evOr_cc {c : Cfg} {x y : Ex} {ys : List Ex} {ρ : Sl} {M : Mem} : evOr c (x :: y :: ys) ρ M = (evE c x ρ M).bind fun d M1 => (VL.R.of (truth d) M1).bind fun t M2 => if t = true then .ok d M2 else evOr c (y :: ys) ρ M2 := by
  rw [evOr]
def CompT (P : Prog) (n : Nat) (cl : Nat → Value) (W : WXX) (X : Cx) (elt : Ex) (p : Pt) (k : ItK) (args conds : List Ex) (own : List Nat) (ee tg iter : Expr) (ifs : List Expr) (scope : Scope) : Prop :=
  ∃ t : TE, (∀ pos, PE X (.ListComp ee [⟨tg, iter, ifs, 0⟩] scope pos) t) ∧
      (∀ {i : Nat} {y : Str} {py pos spos : Pos}, X.N[i]? = some y → X.env.scope.names.lookup y = some .local → swapsWith (.ListComp ee [⟨tg, iter, ifs, 0⟩] scope pos) (some (.Name y py)) spos.line X.env = pure true → PS X (.Assign [.Name y py] (.ListComp ee [⟨tg, iter, ifs, 0⟩] scope pos) spos) (tAsg t (gName i))) ∧
      ∀ σ H Q, tL X.K cl W (evE (cfgN P n) (.comp elt p k args conds own)) σ H Q → t σ H Q
theorem compOf {elt : Ex} {p : Pt} {k : ItK} {args conds : List Ex} {own : List Nat} {X : Cx} {sc : Scope} {W : WXX} {ee tg iter : Expr} {ifs : List Expr} {scope : Scope} {pos : Pos} (w : XW P nm cl n X sc W)
    (ihe : ∀ {X : Cx} {sc : Scope} {W : WXX} {e : Expr}, XW P nm cl n X sc W → mE X.N nm elt sc e = true → SE P n cl W X elt e)
    (ihc : ∀ y, conds = [y] → ∀ {X : Cx} {sc : Scope} {W : WXX} {e : Expr}, XW P nm cl n X sc W → mE X.N nm y sc e = true → SE P n cl W X y e)
    (iha : ∀ a, args = [a] → ∀ {X : Cx} {sc : Scope} {W : WXX} {e : Expr}, XW P nm cl n X sc W → mE X.N nm a sc e = true → SE P n cl W X a e)
    (ihas : ∀ {X : Cx} {sc : Scope} {W : WXX} {es : List Expr}, XW P nm cl n X sc W → mEs X.N nm args sc es = true → PA X es (tA X.K cl W (evEs (cfgN P n) args)))
    (h : mE X.N nm (.comp elt p k args conds own) sc (.ListComp ee [⟨tg, iter, ifs, 0⟩] scope pos) = true) : CompT P n cl W X elt p k args conds own ee tg iter ifs scope := by
  unfold mE at h
  dsimp only at h
  simp only [Bool.and_eq_true, decide_eq_true_eq] at h
  obtain ⟨⟨⟨⟨⟨⟨⟨⟨hb, hp⟩, hpo⟩, hown⟩, hcl⟩, htb⟩, hco⟩, hel⟩, hit⟩ := h
  have he : ∀ (X' : Cx), X'.N = X.N → X'.K = X.K → XW P nm cl n X' scope (fun _ _ _ _ => False) → PE X' ee (tE X'.K cl (fun _ _ _ _ => False) (evE (cfgN P n) elt)) := fun X' hN _ w' => (ihe w' (by rw [hN]; exact hel)).1
  have hc : ∀ (X' : Cx), X'.N = X.N → X'.K = X.K → XW P nm cl n X' scope (fun _ _ _ _ => False) → ∀ x e, conds = [x] → ifs = [e] → PT X' e (tT X'.K cl (fun _ _ _ _ => False) (evT (cfgN P n) x)) := fun X' hN _ w' x e e1 e2 => by
    subst e2
    have ht : tstB x = true := by rw [e1] at htb; simpa [tstBs] using htb
    cases conds with
    | nil => cases e1
    | cons y ys =>
      have e3 := (List.cons.inj e1).1
      subst e3
      have hm : mE X.N nm y scope e = true := by
        simp only [mEs, Bool.and_eq_true] at hco
        exact hco.1.2
      exact (ihc y e1 w' (by rw [hN]; exact hm)).2 ht
  have hl2 : conds.length = ifs.length := mEs_len hco
  have fin : ∀ {ri : Sl → Mem → VL.R (List D)}, (∀ a b c, iter ≠ .Set a b c) → PI X tg iter (tI X.K cl W ri) → (∀ ρ M, ri ρ M = (evEs (cfgN P n) args ρ M).bind fun ds M1 => R.of (itD k ds) M1) → CompT P n cl W X elt p k args conds own ee tg iter ifs scope := fun hs hi hr =>
    s_compParts w hb hp hpo hs hi hr hcl hl2 he hc
  cases k with
  | seq =>
    cases args with
    | nil => cases hit
    | cons a as =>
      cases as with
      | cons _ _ => cases hit
      | nil =>
        simp only [Bool.and_eq_true] at hit
        refine fin (fun a b c e => by rw [e] at hit; cases hit.2) (s_iseq (iha a rfl w hit.1).1) fun ρ M => ?_
        simp only [evEs, R.bind_assoc, R.bind_ok]
  | keys =>
    dsimp only at hit
    split at hit
    · split at hit
      · exact s_compK w hb hp hpo hit hcl hl2 he hc
      · cases hit
    · cases hit
  | _ =>
    dsimp only at hit
    split at hit <;> try (cases hit; done)
    split at hit <;> try (cases hit; done)
    rename_i es kws _ _ x _
    simp only [Bool.and_eq_true, List.isEmpty_iff] at hit
    obtain ⟨⟨⟨h1, h2⟩, h3⟩, h4⟩ := hit
    subst h2
    obtain ⟨ri, hi, hr⟩ := walk_call w h1 h4 h3 (ihas w h3) (fun a ha e hm => (iha a ha w hm).1)
    exact fin (fun a b c e => by cases e) hi hr
/-- where a walk comes from -/
theorem walkOf {X : Cx} {sc : Scope} {W : WXX} {k : ItK} {args : List Ex} {tg iter : Expr} (w : XW P nm cl n X sc W)
    (iha : ∀ a, args = [a] → ∀ {X : Cx} {sc : Scope} {W : WXX} {e : Expr}, XW P nm cl n X sc W → mE X.N nm a sc e = true → SE P n cl W X a e)
    (ihas : ∀ {X : Cx} {sc : Scope} {W : WXX} {es : List Expr}, XW P nm cl n X sc W → mEs X.N nm args sc es = true → PA X es (tA X.K cl W (evEs (cfgN P n) args)))
    (hs : itShp sc k tg iter = true) (hm : mEs X.N nm args sc (itArgs k iter) = true) :
    (∀ a b c, iter ≠ .Set a b c) ∧ PI X tg iter (tI X.K cl W fun ρ M => (evEs (cfgN P n) args ρ M).bind fun ds M1 => R.of (itD k ds) M1) := by
  have fin : ∀ {ri : Sl → Mem → VL.R (List D)}, PI X tg iter (tI X.K cl W ri) → (∀ ρ M, ri ρ M = (evEs (cfgN P n) args ρ M).bind fun ds M1 => R.of (itD k ds) M1) → PI X tg iter (tI X.K cl W fun ρ M => (evEs (cfgN P n) args ρ M).bind fun ds M1 => R.of (itD k ds) M1) := fun hi hr => PI.cong hi fun ρ M => (hr ρ M).symm
  refine ⟨fun a b c e => (by rw [e] at hs; cases hs), ?_⟩
  by_cases hk : k = .seq
  · subst hk
    have hm : mEs X.N nm args sc [iter] = true := hm
    cases args with
    | nil => simp [mEs] at hm
    | cons a as =>
      simp only [mEs, Bool.and_eq_true] at hm
      have e0 : as = [] := by
        cases as with
        | nil => rfl
        | cons _ _ => simp [mEs] at hm
      subst e0
      refine fin (s_iseq (iha a rfl w hm.1.2).1) fun ρ M => ?_
      simp only [evEs, R.bind_assoc, R.bind_ok]
  · unfold itShp at hs
    split at hs
    · rename_i x pp es kws pos
      have e1 : itArgs k (.Call (.Name x pp) es kws pos) = es := by cases k <;> first | rfl | exact absurd rfl hk
      rw [e1] at hm
      split at hs
      · exact absurd rfl hk
      · cases hs
      · simp only [Bool.and_eq_true, List.isEmpty_iff] at hs
        obtain ⟨⟨h1, h2⟩, h4⟩ := hs
        subst h2
        obtain ⟨ri, hi, hr⟩ := walk_call w h1 h4 hm (ihas w hm) (fun a ha e hm => (iha a ha w hm).1)
        exact fin hi hr
    · cases hs
    · cases hs
    · cases hs
    · cases hs
    · split at hs
      · exact absurd rfl hk
      · cases hs
theorem condOf {X : Cx} {conds : List Ex} {ifs : List Expr} {scope : Scope}
    (ihc : ∀ y, conds = [y] → ∀ {X : Cx} {sc : Scope} {W : WXX} {e : Expr}, XW P nm cl n X sc W → mE X.N nm y sc e = true → SE P n cl W X y e) (htb : tstBs conds = true) (hco : mEs X.N nm conds scope ifs = true) :
    ∀ (X' : Cx), X'.N = X.N → X'.K = X.K → XW P nm cl n X' scope (fun _ _ _ _ => False) → ∀ x e, conds = [x] → ifs = [e] → PT X' e (tT X'.K cl (fun _ _ _ _ => False) (evT (cfgN P n) x)) := fun X' hN _ w' x e e1 e2 => by
  subst e2
  have ht : tstB x = true := by rw [e1] at htb; simpa [tstBs] using htb
  subst e1
  have hm : mE X.N nm x scope e = true := by
    simp only [mEs, Bool.and_eq_true] at hco
    exact hco.1.2
  exact (ihc x rfl w' (by rw [hN]; exact hm)).2 ht
def Comp2T (P : Prog) (n : Nat) (cl : Nat → Value) (W : WXX) (X : Cx) (x : Ex) (ee tg iter : Expr) (ifs : List Expr) (tg2 iter2 : Expr) (ifs2 : List Expr) (scope : Scope) : Prop :=
  ∃ t : TE, (∀ pos, PE X (.ListComp ee [⟨tg, iter, ifs, 0⟩, ⟨tg2, iter2, ifs2, 0⟩] scope pos) t) ∧
      (∀ {i : Nat} {y : Str} {py pos spos : Pos}, X.N[i]? = some y → X.env.scope.names.lookup y = some .local → swapsWith (.ListComp ee [⟨tg, iter, ifs, 0⟩, ⟨tg2, iter2, ifs2, 0⟩] scope pos) (some (.Name y py)) spos.line X.env = pure true → PS X (.Assign [.Name y py] (.ListComp ee [⟨tg, iter, ifs, 0⟩, ⟨tg2, iter2, ifs2, 0⟩] scope pos) spos) (tAsg t (gName i))) ∧
      ∀ σ H Q, tL X.K cl W (evE (cfgN P n) x) σ H Q → t σ H Q
theorem comp2Of {elt : Ex} {p p2 : Pt} {k k2 : ItK} {args args2 conds conds2 : List Ex} {own own2 : List Nat} {X : Cx} {sc : Scope} {W : WXX} {ee tg iter tg2 iter2 : Expr} {ifs ifs2 : List Expr} {scope : Scope} {pos : Pos} (w : XW P nm cl n X sc W)
    (ihe : ∀ {X : Cx} {sc : Scope} {W : WXX} {e : Expr}, XW P nm cl n X sc W → mE X.N nm elt sc e = true → SE P n cl W X elt e)
    (ihc : ∀ y, conds = [y] → ∀ {X : Cx} {sc : Scope} {W : WXX} {e : Expr}, XW P nm cl n X sc W → mE X.N nm y sc e = true → SE P n cl W X y e)
    (ihd : ∀ y, conds2 = [y] → ∀ {X : Cx} {sc : Scope} {W : WXX} {e : Expr}, XW P nm cl n X sc W → mE X.N nm y sc e = true → SE P n cl W X y e)
    (iha : ∀ a, args = [a] → ∀ {X : Cx} {sc : Scope} {W : WXX} {e : Expr}, XW P nm cl n X sc W → mE X.N nm a sc e = true → SE P n cl W X a e)
    (ihas : ∀ {X : Cx} {sc : Scope} {W : WXX} {es : List Expr}, XW P nm cl n X sc W → mEs X.N nm args sc es = true → PA X es (tA X.K cl W (evEs (cfgN P n) args)))
    (ihb : ∀ a, args2 = [a] → ∀ {X : Cx} {sc : Scope} {W : WXX} {e : Expr}, XW P nm cl n X sc W → mE X.N nm a sc e = true → SE P n cl W X a e)
    (ihbs : ∀ {X : Cx} {sc : Scope} {W : WXX} {es : List Expr}, XW P nm cl n X sc W → mEs X.N nm args2 sc es = true → PA X es (tA X.K cl W (evEs (cfgN P n) args2)))
    (h : mE X.N nm (.comp2 elt p k args conds own p2 k2 args2 conds2 own2) sc (.ListComp ee [⟨tg, iter, ifs, 0⟩, ⟨tg2, iter2, ifs2, 0⟩] scope pos) = true) : Comp2T P n cl W X (.comp2 elt p k args conds own p2 k2 args2 conds2 own2) ee tg iter ifs tg2 iter2 ifs2 scope := by
  unfold mE at h
  simp only [c2Of, Bool.and_eq_true] at h
  obtain ⟨⟨⟨⟨⟨hc2, ha⟩, hb2⟩, hco⟩, hdo⟩, hel⟩ := h
  unfold c2B at hc2
  simp only [Bool.and_eq_true, decide_eq_true_eq] at hc2
  obtain ⟨⟨⟨⟨⟨⟨⟨⟨⟨⟨⟨⟨hb, hp⟩, hpo⟩, hown⟩, hcl⟩, htb⟩, hp2⟩, hpo2⟩, hsub⟩, hdl⟩, htd⟩, hs1⟩, hs2⟩ := hc2
  obtain ⟨hn1, hi1⟩ := walkOf (k := k) (args := args) (tg := tg) (iter := iter) w iha ihas hs1 ha
  refine s_comp2 w hb hp hpo hn1 (fun a b c e => by rw [e] at hs2; cases hs2) hi1 (fun _ _ => rfl) hcl (mEs_len hco) hp2 hpo2 hsub hdl (mEs_len hdo) (fun X' hN hK w' => ?_) (fun X' hN _ w' => (ihe w' (by rw [hN]; exact hel)).1) (condOf ihc htb hco) (condOf ihd htd hdo)
  exact (walkOf (k := k2) (args := args2) (tg := tg2) (iter := iter2) w' ihb ihbs hs2 (by rw [hN]; exact hb2)).2
theorem c2Of_eq {e : Expr} {q : C2} (h : c2Of e = some q) : ∃ pos, e = .ListComp q.ee [⟨q.tg, q.iter, q.ifs, 0⟩, ⟨q.tg2, q.iter2, q.ifs2, 0⟩] q.scope pos := by
  unfold c2Of at h
  split at h
  · cases h; exact ⟨_, rfl⟩
  · cases h
mutual
theorem sE : ∀ (x : Ex) {X : Cx} {sc : Scope} {W : WXX} {e : Expr}, XW P nm cl n X sc W → mE X.N nm x sc e = true → SE P n cl W X x e
  | .var i, X, sc, W, e, w, h => by
    have h0 := h
    unfold mE at h
    split at h
    · simp only [Bool.and_eq_true, decide_eq_true_eq] at h
      exact SE.plain w (s_varE (s_var w h.1 h.2)) h0 fun _ => rfl
    · cases h
  | .lit d, X, sc, W, e, w, h => by
    have h0 := h
    unfold mE at h
    split at h
    · exact SE.plain w (s_lit h) h0 fun _ => rfl
    · cases h
  | .glob k, X, sc, W, e, w, h => by
    have h0 := h
    unfold mE at h
    split at h
    · simp only [Bool.and_eq_true, decide_eq_true_eq] at h
      exact SE.plain w (s_glob w h.1 h.2) h0 fun _ => rfl
    · cases h
  | .tup xs, X, sc, W, e, w, h => by
    have h0 := h
    unfold mE at h
    split at h
    · simp only [Bool.and_eq_true, decide_eq_true_eq] at h
      exact SE.plain w (s_tup (sEs xs w h.1) h.2) h0 fun _ => rfl
    · cases h
  | .lst xs, X, sc, W, e, w, h => by
    have h0 := h
    unfold mE at h
    split at h
    · simp only [Bool.and_eq_true, decide_eq_true_eq] at h
      exact SE.plain w (s_lst (sEs xs w h.1) h.2) h0 fun _ => rfl
    · cases h
  | .dict0, X, sc, W, e, w, h => by unfold mE at h; cases h
  | .bin o a b, X, sc, W, e, w, h => by
    have h0 := h
    unfold mE at h
    split at h
    · simp only [Bool.and_eq_true] at h
      obtain ⟨⟨ho, ha⟩, hb⟩ := h
      rw [mOp_eq ho] at h0 ⊢
      refine SE.plain w (PE.cong (s_op (fun ta tb h1 h2 => pe_op (op_bin o) h1 h2) (SE.rd w (sE a w ha).1 ha) (SE.rd w (sE b w hb).1 hb)) fun ρ M => ?_) h0 fun _ => rfl
      simp only [evE]
    · cases h
  | .neg a, X, sc, W, e, w, h => by
    have h0 := h
    unfold mE at h
    split at h
    · simp only [Bool.and_eq_true] at h
      obtain ⟨ho, ha⟩ := h
      split at ho
      · exact SE.plain w (s_neg (sE a w ha).1) h0 fun _ => rfl
      · cases ho
    · cases h
  | .cmp o a b, X, sc, W, e, w, h => by
    unfold mE at h
    split at h
    · split at h
      · simp only [Bool.and_eq_true, Bool.not_eq_true'] at h
        obtain ⟨⟨⟨ho, hm⟩, ha⟩, hb⟩ := h
        rw [mCmp_eq ho] at hm ⊢
        refine ⟨PE.cong (s_op (fun ta tb h1 h2 => pe_cmpR (op_cmp w.hu o) h1 h2 hm) (SE.rd w (sE a w ha).1 ha) (SE.rd w (sE b w hb).1 hb)) fun ρ M => by simp only [evE], fun _ => ?_⟩
        refine PT.cong (s_tcmp w hm (SE.rd w (sE a w ha).1 ha) (SE.rd w (sE b w hb).1 hb)) fun ρ M => ?_
        rw [evT_other fun i e => Ex.noConfusion e]
        simp only [evE]
      · cases h
    · cases h
  | .chain o o2 a b d, X, sc, W, e, w, h => by
    unfold mE at h
    split at h
    · split at h
      · simp only [Bool.and_eq_true, Bool.not_eq_true'] at h
        obtain ⟨⟨⟨⟨⟨ho, ho2⟩, hm⟩, ha⟩, hb⟩, hd⟩ := h
        rw [mCmp_eq ho, mCmp_eq ho2] at hm ⊢
        refine ⟨PE.cong (s_chain w hm (sE a w ha).1 (sE b w hb).1 (sE d w hd).1) fun ρ M => by simp only [evE] <;> rfl, fun _ => ?_⟩
        refine PT.cong (s_tval (ra := evE (cfgN P n) (.chain o o2 a b d)) (pt_chain (op_cmp w.hu o) (op_cmp w.hu o2) (sE a w ha).1 (sE b w hb).1 (sE d w hd).1 hm) (fun σ H Q z => ?_) fun ρ M t M' ht => ?_) fun ρ M => ?_
        · obtain ⟨ι, F, ρ, M, r, z⟩ := z
          simp only [evE] at z
          exact chain_imp ⟨ι, F, ρ, M, r, z⟩
        · simp only [evE] at ht
          cases e1 : evE (cfgN P n) a ρ M with
          | ok x M1 =>
            rw [e1, R.bind_ok] at ht
            cases e2 : evE (cfgN P n) b ρ M1 with
            | ok y M2 =>
              rw [e2, R.bind_ok] at ht
              cases e3 : cmpD o x y with
              | none => rw [e3] at ht; cases ht
              | some k =>
                rw [e3, R.of_some, R.bind_ok] at ht
                obtain ⟨kb, rfl⟩ := cmpD_bl e3
                cases kb with
                | false => cases ht; exact ⟨_, rfl⟩
                | true =>
                  cases e4 : evE (cfgN P n) d ρ M2 with
                  | ok u M3 =>
                    have ht : (evE (cfgN P n) d ρ M2).bind (fun z M4 => VL.R.of (cmpD o2 y z) M4) = .ok t M' := ht
                    rw [e4, R.bind_ok] at ht
                    cases e5 : cmpD o2 y u with
                    | none => rw [e5] at ht; cases ht
                    | some k2 =>
                      rw [e5, R.of_some] at ht
                      cases ht
                      exact cmpD_bl e5
                  | ex _ _ => have ht : (evE (cfgN P n) d ρ M2).bind (fun z M4 => VL.R.of (cmpD o2 y z) M4) = .ok t M' := ht; rw [e4] at ht; cases ht
                  | st => have ht : (evE (cfgN P n) d ρ M2).bind (fun z M4 => VL.R.of (cmpD o2 y z) M4) = .ok t M' := ht; rw [e4] at ht; cases ht
            | ex _ _ => rw [e2] at ht; cases ht
            | st => rw [e2] at ht; cases ht
          | ex _ _ => rw [e1] at ht; cases ht
          | st => rw [e1] at ht; cases ht
        · rw [evT_other fun i e => Ex.noConfusion e]
      · cases h
    · cases h
  | .isN a ng, X, sc, W, e, w, h => by
    unfold mE at h
    split at h
    · split at h
      · simp only [Bool.and_eq_true] at h
        obtain ⟨ho, ha⟩ := h
        refine ⟨s_isN ho (sE a w ha).1, fun _ => ?_⟩
        obtain ⟨t, h1, h2⟩ := s_tisN (pos := _) ho (sE a w ha).1
        refine PT.cong (s_tval h1 h2 fun ρ M d M' ht => ?_) fun ρ M => by rw [evT_other fun i e => Ex.noConfusion e]
        simp only [evE] at ht
        cases e1 : evE (cfgN P n) a ρ M with
        | ok x M1 => rw [e1, R.bind_ok] at ht; cases ht; exact ⟨_, rfl⟩
        | ex _ _ => rw [e1] at ht; cases ht
        | st => rw [e1] at ht; cases ht
      · cases h
    · cases h
  | .and xs, X, sc, W, e, w, h => by
    unfold mE at h
    split at h
    · simp only [Bool.and_eq_true] at h
      obtain ⟨ho, ha⟩ := h
      split at ho
      · obtain ⟨h1, h2⟩ := sAnd xs w ha
        refine ⟨PE.cong h1 fun ρ M => by simp only [evE], fun ht => ?_⟩
        simp only [tstB, Bool.and_eq_true, Bool.not_eq_true'] at ht
        refine PT.cong (h2 ht.1 ht.2).pt fun ρ M => ?_
        rw [evT_other fun i e => Ex.noConfusion e]
        simp only [evE]
      · cases ho
    · cases h
  | .or xs, X, sc, W, e, w, h => by
    unfold mE at h
    split at h
    · simp only [Bool.and_eq_true] at h
      obtain ⟨ho, ha⟩ := h
      split at ho
      · obtain ⟨h1, h2⟩ := sOr xs w ha
        refine ⟨PE.cong h1 fun ρ M => by simp only [evE], fun ht => ?_⟩
        simp only [tstB, Bool.and_eq_true, Bool.not_eq_true'] at ht
        refine PT.cong (h2 ht.1 ht.2).pt fun ρ M => ?_
        rw [evT_other fun i e => Ex.noConfusion e]
        simp only [evE]
      · cases ho
    · cases h
  | .not a, X, sc, W, e, w, h => by
    unfold mE at h
    split at h
    · simp only [Bool.and_eq_true] at h
      obtain ⟨ho, ha⟩ := h
      split at ho
      · refine ⟨PE.cong (s_not (SE.rd w (sE a w ha).1 ha)) fun ρ M => by simp only [evE], fun ht => ?_⟩
        simp only [tstB] at ht
        exact PT.cong (s_tnot ((sE a w ha).2 ht)) fun ρ M => evT_not
      · cases ho
    · cases h
  | .ite q a b, X, sc, W, e, w, h => by
    unfold mE at h
    split at h
    · simp only [Bool.and_eq_true] at h
      obtain ⟨⟨⟨ht, hq⟩, ha⟩, hb⟩ := h
      refine ⟨PE.cong (s_ite ((sE q w hq).2 ht) (sE a w ha).1 (sE b w hb).1) fun ρ M => ?_, fun ht => by simp [tstB] at ht⟩
      simp only [evE]
      unfold evT
      rw [R.bind_assoc]
    · cases h
  | .ix a b, X, sc, W, e, w, h => by
    have h0 := h
    unfold mE at h
    split at h
    · simp only [Bool.and_eq_true] at h
      obtain ⟨⟨hp, ha⟩, hb⟩ := h
      refine SE.plain w (PE.cong (s_ix hp (SE.rd w (sE a w ha).1 ha) (sE b w hb).1) fun ρ M => ?_) h0 fun _ => rfl
      simp only [evE]
    · cases h
  | .sl a lo hi, X, sc, W, e, w, h => by
    have h0 := h
    unfold mE at h
    split at h
    · split at h
      · rename_i l u st _
        simp only [Bool.and_eq_true, Option.isNone_iff_eq_none] at h
        obtain ⟨⟨⟨hs, ha⟩, hl⟩, hu⟩ := h
        subst hs
        refine SE.plain w (PE.cong (s_sl (SE.rd w (sE a w ha).1 ha) (sO (fun e h => (sE lo w h).1) hl) (sO (fun e h => (sE hi w h).1) hu)) fun ρ M => ?_) h0 fun _ => rfl
        simp only [evE]
      · cases h
    · cases h
  | .call f xs, X, sc, W, e, w, h => by
    have h0 := h
    unfold mE at h
    split at h
    · split at h
      · simp only [Bool.and_eq_true, decide_eq_true_eq, List.isEmpty_iff] at h
        obtain ⟨⟨⟨h1, h2⟩, h3⟩, h4⟩ := h
        subst h3
        exact SE.plain w (s_call w h1 h2 h4 (sEs xs w h4)) h0 fun _ => rfl
      · cases h
    · cases h
  | .blt b xs, X, sc, W, e, w, h => by
    have h0 := h
    unfold mE at h
    split at h
    · split at h
      · simp only [Bool.and_eq_true, decide_eq_true_eq, List.isEmpty_iff, Bool.not_eq_true'] at h
        obtain ⟨⟨⟨⟨h1, h2⟩, h3⟩, h5⟩, h4⟩ := h
        subst h3
        exact SE.plain w (s_blt w h1 h2 h4 h5 (sRs xs w h4)) h0 fun _ => rfl
      · cases h
    · cases h
  | .mth _ _ _, X, sc, W, e, w, h => by unfold mE at h; cases h
  | .isi a t, X, sc, W, e, w, h => by
    have h0 := h
    unfold mE at h
    split at h
    · split at h
      · simp only [Bool.and_eq_true, decide_eq_true_eq, List.isEmpty_iff] at h
        obtain ⟨⟨⟨⟨⟨⟨h1, h2⟩, h3⟩, h4⟩, h5⟩, h6⟩, h7⟩ := h
        subst h5
        refine SE.plain w (PE.cong (s_isi w h1 h2 h3 h4 h6 (SE.rd w (sE a w h7).1 h7)) fun ρ M => ?_) h0 fun _ => rfl
        simp only [evE]
      · cases h
    · cases h
  | .lrng xs, X, sc, W, e, w, h => by
    have h0 := h
    unfold mE at h
    split at h
    · split at h
      · simp only [Bool.and_eq_true, decide_eq_true_eq, List.isEmpty_iff] at h
        obtain ⟨⟨⟨⟨⟨⟨⟨h1, h2⟩, h3⟩, h4⟩, h5⟩, h6⟩, h7⟩, h8⟩ := h
        subst h3 h6
        refine SE.plain w (PE.weak (s_lrng w h1 h2 h4 h5 h7 h8 fun a ha e hm => sEm xs a ha w hm) fun σ H Q z => tNL_of ?_) h0 fun _ => rfl
        obtain ⟨ι, F, ρ, M, r, z⟩ := z
        simp only [evE] at z
        refine ⟨ι, F, ρ, M, r, ?_⟩
        dsimp only
        rw [R.bind_assoc]
        exact z
      · cases h
    · cases h
  | .dget d k none, X, sc, W, e, w, h => by
    have h0 := h
    unfold mE at h
    split at h
    · simp only [Bool.and_eq_true, decide_eq_true_eq, List.isEmpty_iff] at h
      obtain ⟨⟨⟨⟨⟨h1, h2⟩, h3⟩, h4⟩, h5⟩, h6⟩ := h
      subst h1 h3
      split at h6
      · rename_i ek _
        simp only [Bool.and_eq_true] at h6
        exact SE.plain w (s_dget1 w h2 h4 h6.1 (sE d w h5).1 (sE k w h6.2).1) h0 fun _ => rfl
      · rename_i e0; cases e0
      · cases h6
    · cases h
  | .dget d k (some o), X, sc, W, e, w, h => by
    have h0 := h
    unfold mE at h
    split at h
    · simp only [Bool.and_eq_true, decide_eq_true_eq, List.isEmpty_iff] at h
      obtain ⟨⟨⟨⟨⟨h1, h2⟩, h3⟩, h4⟩, h5⟩, h6⟩ := h
      subst h1 h3
      split at h6
      · rename_i e0; cases e0
      · rename_i f ek ef e0
        cases e0
        simp only [Bool.and_eq_true] at h6
        exact SE.plain w (s_dget2 w h2 h4 h6.1.1.1 h6.1.2 (sE d w h5).1 (sE k w h6.1.1.2).1 (sE o w h6.2).1) h0 fun _ => rfl
      · cases h6
    · cases h
  | .dix d k, X, sc, W, e, w, h => by
    have h0 := h
    unfold mE at h
    split at h
    · simp only [Bool.and_eq_true] at h
      obtain ⟨⟨hp, hd⟩, hk⟩ := h
      exact SE.plain w (s_dix w hp (sE d w hd).1 (sE k w hk).1) h0 fun _ => rfl
    · cases h
  | .din k d ng, X, sc, W, e, w, h => by
    have h0 := h
    unfold mE at h
    split at h
    · split at h
      · simp only [Bool.and_eq_true, Bool.not_eq_true'] at h
        obtain ⟨⟨⟨ho, hm⟩, hk⟩, hd⟩ := h
        rw [mCmp_eq ho] at hm h0 ⊢
        exact ⟨(s_din w hm (sE d w hd).1 (sE k w hk).1).1, fun _ => (s_din w hm (sE d w hd).1 (sE k w hk).1).2⟩
      · cases h
    · cases h
  | .bor a, X, sc, W, e, w, h => by
    unfold mE at h
    have ih := sE a w h
    refine ⟨PE.weak ih.1 fun σ H Q z => tE_bor ?_, fun ht => PT.weak (ih.2 (by simpa only [tstB] using ht)) fun σ H Q z => tT_bor ?_⟩
    · obtain ⟨ι, F, ρ, M, r, z⟩ := z
      simp only [evE] at z
      exact ⟨ι, F, ρ, M, r, z⟩
    · obtain ⟨ι, F, ρ, M, r, z⟩ := z
      simp only [evT, evE] at z
      exact ⟨ι, F, ρ, M, r, z⟩
  | .comp elt p k args conds own, X, sc, W, e, w, h => by
    have h0 := h
    unfold mE at h
    split at h
    · split at h
      · rename_i ee scope lpos _ tg iter ifs
        refine SE.plain w ?_ h0 fun _ => rfl
        obtain ⟨t, h1, _, h3⟩ := compOf w (pos := lpos) (sE elt) (fun y hy => by
          cases conds with
          | nil => cases hy
          | cons z zs =>
            have e3 := (List.cons.inj hy).1
            subst e3
            intro X sc W e w h
            exact sE z w h) (fun a ha => by
          cases args with
          | nil => cases ha
          | cons z zs =>
            have e3 := (List.cons.inj ha).1
            subst e3
            intro X sc W e w h
            exact sE z w h) (sEs args) h0
        exact PE.weak (h1 lpos) fun σ H Q z => h3 σ H Q (tL_of z)
      · cases h
    · cases h
  | .comp2 elt p k args conds own p2 k2 args2 conds2 own2, X, sc, W, e, w, h => by
    have h0 := h
    unfold mE at h
    split at h
    · rename_i q eq
      obtain ⟨pos, rfl⟩ := c2Of_eq eq
      refine SE.plain w ?_ h0 fun _ => rfl
      obtain ⟨t, h1, _, h3⟩ := comp2Of w (pos := pos) (sE elt) (fun y hy => by
        cases conds with
        | nil => cases hy
        | cons z zs =>
          have e3 := (List.cons.inj hy).1
          subst e3
          intro X sc W e w h
          exact sE z w h) (fun y hy => by
        cases conds2 with
        | nil => cases hy
        | cons z zs =>
          have e3 := (List.cons.inj hy).1
          subst e3
          intro X sc W e w h
          exact sE z w h) (fun a ha => by
        cases args with
        | nil => cases ha
        | cons z zs =>
          have e3 := (List.cons.inj ha).1
          subst e3
          intro X sc W e w h
          exact sE z w h) (sEs args) (fun a ha => by
        cases args2 with
        | nil => cases ha
        | cons z zs =>
          have e3 := (List.cons.inj ha).1
          subst e3
          intro X sc W e w h
          exact sE z w h) (sEs args2) h0
      exact PE.weak (h1 pos) fun σ H Q z => h3 σ H Q (tL_of z)
    · cases h
theorem sEm : ∀ (xs : List Ex) (a : Ex), a ∈ xs → ∀ {X : Cx} {sc : Scope} {W : WXX} {e : Expr}, XW P nm cl n X sc W → mE X.N nm a sc e = true → PE X e (tE X.K cl W (evE (cfgN P n) a))
  | [], a, ha, _, _, _, _, _, _ => absurd ha (by simp)
  | x :: xs, a, ha, _, _, _, _, w, h => by
    by_cases hx : a ∈ xs
    · exact sEm xs a hx w h
    · have e : x = a := (List.mem_cons.mp ha).elim Eq.symm fun z => absurd z hx
      subst e
      exact (sE x w h).1
theorem sEs : ∀ (xs : List Ex) {X : Cx} {sc : Scope} {W : WXX} {es : List Expr}, XW P nm cl n X sc W → mEs X.N nm xs sc es = true → PA X es (tA X.K cl W (evEs (cfgN P n) xs))
  | [], X, sc, W, es, w, h => by
    simp only [mEs, List.isEmpty_iff] at h
    subst h
    exact PA.cong s_pa_nil fun ρ M => by simp only [evEs]
  | x :: xs, X, sc, W, es, w, h => by
    cases es with
    | nil => simp [mEs] at h
    | cons e es =>
      simp only [mEs, Bool.and_eq_true] at h
      exact PA.cong (s_pa_cons (c := cfgN P n) h.1.1 (sE x w h.1.2).1 (sEs xs w h.2)) fun ρ M => by simp only [evEs]
theorem sRs : ∀ (xs : List Ex) {X : Cx} {sc : Scope} {W : WXX} {es : List Expr}, XW P nm cl n X sc W → mEs X.N nm xs sc es = true → PA X es (tAR X.K cl W (evRs (cfgN P n) xs))
  | [], X, sc, W, es, w, h => by
    simp only [mEs, List.isEmpty_iff] at h
    subst h
    exact PA.congR s_par_nil fun ρ M => by simp only [evRs]
  | x :: xs, X, sc, W, es, w, h => by
    cases es with
    | nil => simp [mEs] at h
    | cons e es =>
      simp only [mEs, Bool.and_eq_true] at h
      exact PA.congR (s_par_cons (c := cfgN P n) h.1.1 (SE.rd w (sE x w h.1.2).1 h.1.2) (sRs xs w h.2)) fun ρ M => by simp only [evRs]
theorem sAnd : ∀ (xs : List Ex) {X : Cx} {sc : Scope} {W : WXX} {es : List Expr} {pos : Pos}, XW P nm cl n X sc W → mEs X.N nm xs sc es = true →
    PE X (.BoolOp .And es pos) (tE X.K cl W (evAnd (cfgN P n) xs)) ∧ (tstBs xs = true → xs.isEmpty = false → PW X (.BoolOp .And es pos) (tT X.K cl W fun ρ M => (evAnd (cfgN P n) xs ρ M).bind fun d M1 => R.of (truth d) M1))
  | [], X, sc, W, es, pos, w, h => ⟨⟨fun pins s σ H Q I z => by obtain ⟨ι, F, ρ, M, r, z⟩ := z; simp only [evAnd] at z; exact z.elim⟩, fun _ h => by cases h⟩
  | x :: xs, X, sc, W, es, pos, w, h => by
    cases es with
    | nil => simp [mEs] at h
    | cons e es' =>
      simp only [mEs, Bool.and_eq_true] at h
      obtain ⟨⟨hn, hx⟩, hs⟩ := h
      have ix := sE x w hx
      have il := sAnd xs (pos := pos) w hs
      cases xs with
      | nil =>
        simp only [mEs, List.isEmpty_iff] at hs
        subst hs
        refine ⟨PE.cong (s_one ix.1) fun ρ M => ?_, fun ht _ => ?_⟩
        · simp only [evAnd]
          cases evE (cfgN P n) x ρ M <;> rfl
        · simp only [tstBs, Bool.and_eq_true] at ht
          refine PW.weak (pw_and1 (ix.2 ht.1)) fun σ H Q z => ?_
          obtain ⟨ι, F, ρ, M, r, z⟩ := z
          refine ⟨ι, F, ρ, M, r, ?_⟩
          simp only [evAnd] at z
          unfold evT
          cases e1 : evE (cfgN P n) x ρ M <;> (rw [e1] at z; exact z)
      | cons y ys =>
        cases es' with
        | nil => simp [mEs] at hs
        | cons e2 es2 =>
          refine ⟨PE.cong (s_and ix.1 il.1) fun ρ M => ?_, fun ht _ => ?_⟩
          · simp only [evAnd]
          · simp only [tstBs, Bool.and_eq_true] at ht
            refine PW.weak (s_wand (ix.2 ht.1) (il.2 (by simp only [tstBs, Bool.and_eq_true]; exact ht.2) rfl)) fun σ H Q z => ?_
            obtain ⟨ι, F, ρ, M, r, z⟩ := z
            refine ⟨ι, F, ρ, M, r, ?_⟩
            unfold evT
            dsimp only
            rw [R.bind_assoc]
            dsimp only at z
            rw [evAnd_cc] at z
            simp only [R.bind_assoc] at z ⊢
            cases e1 : evE (cfgN P n) x ρ M with
            | ok d M1 =>
              rw [e1] at z
              simp only [R.bind_ok] at z ⊢
              cases et : truth d with
              | none => rw [et] at z; exact z
              | some t =>
                rw [et] at z
                cases t with
                | true => exact z
                | false =>
                  simp only [R.of_some, R.bind_ok, if_neg (show ¬ (false = true) by decide)] at z ⊢
                  rw [et] at z
                  exact z
            | ex c' M1 => rw [e1] at z; exact z
            | st => rw [e1] at z; exact z
theorem sOr : ∀ (xs : List Ex) {X : Cx} {sc : Scope} {W : WXX} {es : List Expr} {pos : Pos}, XW P nm cl n X sc W → mEs X.N nm xs sc es = true →
    PE X (.BoolOp .Or es pos) (tE X.K cl W (evOr (cfgN P n) xs)) ∧ (tstBs xs = true → xs.isEmpty = false → PW X (.BoolOp .Or es pos) (tT X.K cl W fun ρ M => (evOr (cfgN P n) xs ρ M).bind fun d M1 => R.of (truth d) M1))
  | [], X, sc, W, es, pos, w, h => ⟨⟨fun pins s σ H Q I z => by obtain ⟨ι, F, ρ, M, r, z⟩ := z; simp only [evOr] at z; exact z.elim⟩, fun _ h => by cases h⟩
  | x :: xs, X, sc, W, es, pos, w, h => by
    cases es with
    | nil => simp [mEs] at h
    | cons e es' =>
      simp only [mEs, Bool.and_eq_true] at h
      obtain ⟨⟨hn, hx⟩, hs⟩ := h
      have ix := sE x w hx
      have il := sOr xs (pos := pos) w hs
      cases xs with
      | nil =>
        simp only [mEs, List.isEmpty_iff] at hs
        subst hs
        refine ⟨PE.cong (s_one ix.1) fun ρ M => ?_, fun ht _ => ?_⟩
        · simp only [evOr]
          cases evE (cfgN P n) x ρ M <;> rfl
        · simp only [tstBs, Bool.and_eq_true] at ht
          refine PW.weak (pw_or1 (ix.2 ht.1)) fun σ H Q z => ?_
          obtain ⟨ι, F, ρ, M, r, z⟩ := z
          refine ⟨ι, F, ρ, M, r, ?_⟩
          simp only [evOr] at z
          unfold evT
          cases e1 : evE (cfgN P n) x ρ M <;> (rw [e1] at z; exact z)
      | cons y ys =>
        cases es' with
        | nil => simp [mEs] at hs
        | cons e2 es2 =>
          refine ⟨PE.cong (s_or ix.1 il.1) fun ρ M => ?_, fun ht _ => ?_⟩
          · simp only [evOr]
          · simp only [tstBs, Bool.and_eq_true] at ht
            refine PW.weak (s_wor (ix.2 ht.1) (il.2 (by simp only [tstBs, Bool.and_eq_true]; exact ht.2) rfl)) fun σ H Q z => ?_
            obtain ⟨ι, F, ρ, M, r, z⟩ := z
            refine ⟨ι, F, ρ, M, r, ?_⟩
            unfold evT
            dsimp only
            rw [R.bind_assoc]
            dsimp only at z
            rw [evOr_cc] at z
            simp only [R.bind_assoc] at z ⊢
            cases e1 : evE (cfgN P n) x ρ M with
            | ok d M1 =>
              rw [e1] at z
              simp only [R.bind_ok] at z ⊢
              cases et : truth d with
              | none => rw [et] at z; exact z
              | some t =>
                rw [et] at z
                cases t with
                | false => exact z
                | true =>
                  simp only [R.of_some, R.bind_ok, if_pos] at z ⊢
                  rw [et] at z
                  exact z
            | ex c' M1 => rw [e1] at z; exact z
            | st => rw [e1] at z; exact z
end
end
end VL
/-! V7A: things of one's own -/
namespace VL
open PySem PySem.Spec PyProof.Rows L2
/-! ### matching -/
def frB : Ex → Bool
  | .lrng _ => true
  | .blt .list _ => true
  | .sl _ _ _ => true
  | .bin .add _ _ => true
  | _ => false
def isKeys : ItK → Bool
  | .keys => true
  | _ => false
mutual
def mA (N : List Str) (nm : Nms) : Ax → Scope → Expr → Bool
  | .e x, sc, e => mE N nm x sc e
  | .lst as, sc, e => match e with
    | .List es _ => mAs N nm as sc es && decide (as.length ≤ 1000)
    | _ => false
  | .dict0 _, sc, e => match e with
    | .Dict [] [] _ => true
    | _ => false
  | .fr x, sc, e => mE N nm x sc e && frB x
  | .call f xs, sc, e => mE N nm (.call f xs) sc e
  | .ix a k, sc, e => match e with
    | .Subscript ea eb _ => pixB eb && mA N nm a sc ea && mE N nm k sc eb
    | _ => false
  | .bor a, sc, e => mA N nm a sc e
  | .dn a, sc, e => mA N nm a sc e
  | .comp elt p k args conds own, sc, e => match e with
    | .ListComp ee gs scope lp => (match gs with
      | [⟨tg, iter, ifs, 0⟩] => mE N nm (.comp (.lit .non) p k args conds own) sc (.ListComp (.Constant .none 0 lp) [⟨tg, iter, ifs, 0⟩] scope lp) && mA N nm elt scope ee && !isKeys k
      | _ => false)
    | _ => false
def mAs (N : List Str) (nm : Nms) : List Ax → Scope → List Expr → Bool
  | [], sc, es => es.isEmpty
  | a :: as, sc, es => match es with
    | e :: es => nst e && mA N nm a sc e && mAs N nm as sc es
    | [] => false
end
section
variable {K : PySem.W.Frag} {ι ι' ι0 : List Addr} {F F' F0 H H' H0 : Hp} {ρ : Sl} {M : Mem} {σ : L2.St} {cl : Nat → Value} {W : WXX}
/-- several things of one's own -/
inductive DRepA (K : PySem.W.Frag) (ι : List Addr) (F H : Hp) : List V → List (Md × D) → (Addr → Prop) → Prop
  | nil {S : Addr → Prop} : DRepA K ι F H [] [] S
  | cons {v : V} {r : Md × D} {vs : List V} {rs : List (Md × D)} {S A B : Addr → Prop} : DRep K ι F H r.1 v r.2 A → DRepA K ι F H vs rs B → (∀ a, A a → S a) → (∀ a, B a → S a) → (∀ a, A a → ¬ B a) → DRepA K ι F H (v :: vs) (r :: rs) S
theorem DRepA.mono (hι : ∀ (n : Nat) a, ι[n]? = some a → ι'[n]? = some a) (hF : ∀ a u, F a = some u → F' a = some u) : ∀ {v : List V} {d : List (Md × D)} {S S' : Addr → Prop}, DRepA K ι F H v d S → (∀ a, S a → S' a ∧ ∀ u, H a = some u → H' a = some u) → DRepA K ι' F' H' v d S'
  | _, _, _, _, .nil, _ => .nil
  | _, _, _, _, .cons h r a b c, q => .cons (h.mono hι hF fun x hx => ⟨hx, (q _ (a x hx)).2⟩) (DRepA.mono hι hF r fun x hx => ⟨hx, (q _ (b x hx)).2⟩) (fun x hx => (q _ (a x hx)).1) (fun x hx => (q _ (b x hx)).1) c
theorem DRepA.length : ∀ {v : List V} {d : List (Md × D)} {S : Addr → Prop}, DRepA K ι F H v d S → v.length = d.length
  | _, _, _, .nil => rfl
  | _, _, _, .cons _ r _ _ _ => congrArg (· + 1) r.length
theorem DRepA.join {m : Md} : ∀ {v : List V} {d : List (Md × D)} {S : Addr → Prop}, DRepA K ι F H v d S → (∀ r ∈ d, r.2.isLD = false ∨ r.1 = m) → DReps K ι F H m v (d.map (·.2)) S
  | _, _, _, .nil, _ => .nil
  | _, _, _, .cons (r := r) h q a b c, e => by
    refine .cons ?_ (DRepA.join q fun x hx => e x (List.mem_cons_of_mem _ hx)) a b c
    rcases e r List.mem_cons_self with z | z
    · exact .fz (h.flat (.inr z)) (.inr z)
    · rw [← z]; exact h
theorem joinM_ok {rs : List (Md × D)} {m : Md} (h : joinM rs = some m) : ∀ r ∈ rs, r.2.isLD = false ∨ r.1 = m := by
  unfold joinM at h
  intro r hr
  cases e : r.2.isLD with
  | false => exact .inl rfl
  | true =>
    refine .inr ?_
    have hm : r ∈ rs.filter (fun r => r.2.isLD) := List.mem_filter.mpr ⟨hr, e⟩
    split at h
    · rename_i e2; rw [e2] at hm; cases hm
    · rename_i q t e2
      split at h
      · rename_i e3
        cases h
        rw [e2] at hm
        rcases List.mem_cons.mp hm with rfl | hm
        · rfl
        · have := List.all_eq_true.mp e3 r hm
          simpa using this
      · cases h
theorem DRepA.append : ∀ {v w : List V} {d e : List (Md × D)} {S T U : Addr → Prop}, DRepA K ι F H v d S → DRepA K ι F H w e T → (∀ a, S a → U a) → (∀ a, T a → U a) → (∀ a, S a → ¬ T a) → DRepA K ι F H (v ++ w) (d ++ e) U
  | _, _, _, _, _, _, _, .nil, q, _, h2, _ => q.mono (fun _ _ h => h) (fun _ _ h => h) fun a h => ⟨h2 a h, fun _ h => h⟩
  | _, _, _, _, _, T, U, .cons (A := A) (B := B) h r a b c, q, h1, h2, h3 => by
    refine .cons (B := fun x => B x ∨ T x) h (r.append q (fun _ h => .inl h) (fun _ h => .inr h) fun x hx => h3 x (b x hx)) (fun x hx => h1 x (a x hx)) (fun x hx => hx.elim (fun hx => h1 x (b x hx)) (h2 x)) fun x hx => ?_
    rintro (z | z)
    · exact c x hx z
    · exact h3 x (a x hx) z
def tAO (K : PySem.W.Frag) (cl : Nat → Value) (W : WXX) (r : Sl → Mem → VL.R (List (Md × D))) : TA := fun σ H Q => ∃ ι F ρ M, SR K ι F ρ M σ H ∧ Res K cl W ι F σ H (r ρ M) fun d _ ι' F' H' => ∀ vs T, DRepA K ι' F' H' vs d T → New ι' F' H H' T → Q vs H'
/-- a new list -/
theorem own_lst {m : Md} {vs : List V} {ds : List D} {T : Addr → Prop} {p : Addr} {Q : VK} (s0 : Stp ι0 F0 H0 ι F H) (f : FSub F H) (mr : MemRep K ι F M H) (hp : H p = none) (r : DReps K ι F H m vs ds T) (hn : New ι F H0 H T)
    (q : Res K cl W ι F σ H (.ok (m.up, .lst ds) M) fun d _ ι' F' H' => ∀ v T, DRep K ι' F' H' d.1 v d.2 T → New ι' F' H0 H' T → Q v H') : Q (.ref p) (upd H p (.lst vs)) := by
  have hF : F p = none := by
    cases e : F p with
    | none => rfl
    | some u => exact absurd hp (f.isSome e)
  have hi : p ∉ ι := fun h => (mr.there h).1 hp
  have nT : ∀ a, T a → a ≠ p := fun a h e => (hn.at_ a h).2.2.2.ne (by rw [e]; exact hp)
  obtain ⟨f2, m2⟩ := out_upd (o := .lst vs) f mr hF hi
  refine q ι F _ (Stp.refl.upd hp) f2 m2 (.ref p) (fun a => a = p ∨ T a) (.lst (T := T) m.up_ne upd_same (.inl rfl) (fun h => nT p h rfl) (fun b h => .inr h) ?_) ⟨fun a ha => ?_⟩
  · rw [Md.dn_up]
    exact r.mono (fun _ _ h => h) (fun _ _ h => h) fun a h => ⟨h, fun u e => by rw [upd_ne (nT a h)]; exact e⟩
  · rcases ha with rfl | ha
    · refine ⟨hF, hi, ?_, .us⟩
      by_cases hh : H0 a = none
      · exact hh
      · exact absurd hp (s0.live a hh)
    · obtain ⟨h1, h2, h3, h4⟩ := hn.at_ a ha
      exact ⟨h1, h2, h3, h4.upd (nT a ha)⟩
theorem Res.later2 {α : Type} {r : VL.R α} {ι1 : List Addr} {F1 H1 : Hp} {Pd : α → Mem → List Addr → Hp → Hp → Prop} (h : Res K cl W ι F σ H r Pd) (s : Stp ι F H ι1 F1 H1) : Res K cl W ι1 F1 σ H1 r Pd := by
  cases r with
  | ok d M' => exact fun ι' F' H' s' f m => h ι' F' H' (s.trans s') f m
  | ex c M' => exact fun ι' F' H' s' f m => h ι' F' H' (s.trans s') f m
  | st => exact h
theorem New.no : New ι F H0 H fun _ => False := ⟨fun _ h => h.elim⟩
theorem fr_new {vs : List V} {ds : List D} {p : Addr} {Q : VK} (s0 : Stp ι0 F0 H0 ι F H) (f : FSub F H) (mr : MemRep K ι F M H) (hp : H p = none) (r : Reps K ι F vs ds)
    (q : Res K cl W ι F σ H (R.of (frA (.lst ds)) M) fun d _ ι' F' H' => ∀ v T, DRep K ι' F' H' d.1 v d.2 T → New ι' F' H0 H' T → Q v H') : Q (.ref p) (upd H p (.lst vs)) := by
  unfold frA at q
  dsimp only at q
  split at q
  · rename_i h
    exact own_lst (m := .all) s0 f mr hp (DReps.of r (.inr fun x hx => by
      have := List.all_eq_true.mp h x hx
      simpa using this)) New.no q
  · exact own_lst (m := .z) s0 f mr hp (DReps.of r (.inl rfl)) New.no q
theorem tO_e {re : Sl → Mem → VL.R D} {σ : L2.St} {H : Hp} {Q : VK} (z : tO K cl W (fun ρ M => (re ρ M).bind fun d M1 => .ok (Md.z, d) M1) σ H Q) : tE K cl W re σ H Q := by
  obtain ⟨ι, F, ρ, M, r, z⟩ := z
  refine ⟨ι, F, ρ, M, r, ?_⟩
  cases e : re ρ M with
  | st => dsimp only at z; rw [e] at z; exact z
  | ex c M1 => dsimp only at z; rw [e] at z; exact z
  | ok d M1 =>
    dsimp only at z
    rw [e] at z
    exact fun ι1 F1 H1 s1 f1 m1 v hv => z ι1 F1 H1 s1 f1 m1 v (fun _ => False) (.fz hv (.inl rfl)) New.no
theorem DRepk.of_ {S : Addr → Prop} : ∀ {l : List (D × V)} {kds : List (D × D)}, RepK K ι F l kds → DRepk K ι F H .z l kds S
  | _, _, .nil => .nil
  | _, _, .cons h r => .cons (A := fun _ => False) (B := S) (.fz h (.inl rfl)) (DRepk.of_ r) (fun _ h => h.elim) (fun _ h => h) (fun _ h => h.elim)
/-- what is in a list is settled -/
theorem tO_dn {ra : Sl → Mem → VL.R (Md × D)} {σ : L2.St} {H : Hp} {Q : VK} (z : tO K cl W (fun ρ M => (ra ρ M).bind fun r M1 => R.of (dnA r) M1) σ H Q) : tO K cl W ra σ H Q := by
  obtain ⟨ι, F, ρ, M, r, z⟩ := z
  refine ⟨ι, F, ρ, M, r, ?_⟩
  cases e : ra ρ M with
  | st => dsimp only at z; rw [e] at z; exact z
  | ex c M1 => dsimp only at z; rw [e] at z; exact z
  | ok d M1 =>
    dsimp only at z
    rw [e, R.bind_ok] at z
    obtain ⟨m, x⟩ := d
    intro ι1 F1 H1 s1 f1 m1 v T hv hT
    unfold dnA at z
    dsimp only at z hv
    cases x with
    | lst ds =>
      dsimp only at z
      split at z
      · exact z.elim
      · rename_i hz
        cases hv with
        | fz q eq => exact absurd (eq.elim id fun w => by cases w) hz
        | lst n e s t ts q =>
          rename_i a vs T0
          have N0 : New ι1 F1 H H1 T0 := ⟨fun b hb => hT.at_ b (ts b hb)⟩
          obtain ⟨F2, s2, f2, m2, mono, hset, oth⟩ := s1.settle2 f1 m1 N0
          have reps := DReps.settle mono q fun b u hb hu _ => hset b u hb hu
          refine z ι1 F2 H1 s2 f2 m2 (.ref a) (fun b => b = a) (.lst (T := fun _ => False) (fun w => by cases w) e rfl id (fun _ h => h.elim) (DReps.of reps (.inl rfl))) ⟨fun b hb => ?_⟩
          subst hb
          obtain ⟨h1, h2, h3, h4⟩ := hT.at_ b s
          exact ⟨by rw [oth b t]; exact h1, h2, h3, h4⟩
    | dic td kvs =>
      dsimp only at z
      split at z
      · exact z.elim
      · rename_i hz
        cases hv with
        | fz q eq => exact absurd (eq.elim id fun w => by cases w) hz
        | dic n e s t ts q =>
          rename_i a l T0
          have N0 : New ι1 F1 H H1 T0 := ⟨fun b hb => hT.at_ b (ts b hb)⟩
          obtain ⟨F2, s2, f2, m2, mono, hset, oth⟩ := s1.settle2 f1 m1 N0
          have reps := DRepk.settle mono q fun b u hb hu _ => hset b u hb hu
          refine z ι1 F2 H1 s2 f2 m2 (.ref a) (fun b => b = a) (.dic (T := fun _ => False) (fun w => by cases w) e rfl id (fun _ h => h.elim) (DRepk.of_ reps)) ⟨fun b hb => ?_⟩
          subst hb
          obtain ⟨h1, h2, h3, h4⟩ := hT.at_ b s
          exact ⟨by rw [oth b t]; exact h1, h2, h3, h4⟩
    | _ => exact z.elim
theorem New.or {T U : Addr → Prop} {H1 : Hp} (a : New ι F H0 H T) (b : New ι F H1 H U) (h : ∀ a, H1 a = none → H0 a = none) : New ι F H0 H fun a => T a ∨ U a :=
  ⟨fun x hx => hx.elim (a.at_ x) fun hx => let ⟨h1, h2, h3, h4⟩ := b.at_ x hx; ⟨h1, h2, h x h3, h4⟩⟩
theorem DReps.get {m : Md} : ∀ {vs : List V} {ds : List D} {S : Addr → Prop} {n : Nat} {d : D}, DReps K ι F H m vs ds S → ds[n]? = some d → ∃ v A, vs[n]? = some v ∧ DRep K ι F H m v d A ∧ ∀ a, A a → S a
  | _, _, _, n, _, .nil, h => by simp at h
  | _, _, _, 0, _, .cons r _ a _ _, h => by
    simp only [List.getElem?_cons_zero, Option.some.injEq] at h
    subst h; exact ⟨_, _, rfl, r, a⟩
  | _, _, _, n + 1, _, .cons _ r _ b _, h => by
    simp only [List.getElem?_cons_succ] at h
    obtain ⟨v, A, e, q, k⟩ := r.get h
    exact ⟨v, A, by simpa using e, q, fun a ha => b a (k a ha)⟩
theorem DReps.atI {m : Md} {vs : List V} {ds : List D} {S : Addr → Prop} {i : Int} {d : D} (r : DReps K ι F H m vs ds S) (h : L2.atI ds i = some d) : ∃ v A, L2.atI vs i = some v ∧ DRep K ι F H m v d A ∧ ∀ a, A a → S a := by
  unfold L2.atI at h ⊢
  simp only [Option.bind_eq_some_iff] at h ⊢
  obtain ⟨n, e1, e2⟩ := h
  obtain ⟨v, A, e3, q, k⟩ := r.get e2
  exact ⟨v, A, ⟨n, by rw [r.length]; exact e1, e3⟩, q, k⟩
end
section
variable {P : Prog} {nm : Nms} {cl : Nat → Value} {n : Nat} {X : Cx} {sc : Scope} {W : WXX}
theorem PE.congO {e : Expr} {ra rb : Sl → Mem → VL.R (Md × D)} (h : PE X e (tO X.K cl W ra)) (q : ∀ ρ M, rb ρ M = ra ρ M) : PE X e (tO X.K cl W rb) := by
  have : rb = ra := by funext ρ M; exact q ρ M
  rw [this]; exact h
theorem s_pao_nil : PA X [] (tAO X.K cl W fun ρ M => .ok [] M) := by
  refine PA.weak pa_nil fun σ H Q h => ?_
  obtain ⟨ι, F, ρ, M, r, h⟩ := h
  exact Res.of_ok h r.sub r.mem [] (fun _ => False) .nil New.no
theorem s_pao_cons {e : Expr} {es : List Expr} {re : Sl → Mem → VL.R (Md × D)} {rs : Sl → Mem → VL.R (List (Md × D))} (hn : nst e = true) (he : PE X e (tO X.K cl W re)) (hs : PA X es (tAO X.K cl W rs)) :
    PA X (e :: es) (tAO X.K cl W fun ρ M => (re ρ M).bind fun d M1 => (rs ρ M1).bind fun ds M2 => .ok (d :: ds) M2) := by
  refine PA.weak (pa_cons he hs (star_ok hn)) fun σ H Q h => ?_
  obtain ⟨ι, F, ρ, M, r, q⟩ := h
  refine ⟨ι, F, ρ, M, r, q.bind.imp fun d M1 ι1 F1 H1 s1 f1 m1 q1 v T hv hT => ?_⟩
  refine ⟨ι1, F1, ρ, M1, r.step s1 f1 m1, q1.bind.imp fun ds M2 ι2 F2 H2 s2 f2 m2 q2 vs U hvs hU => ?_⟩
  have hT2 := s2.new_ hT
  refine Res.of_ok q2 f2 m2 (v :: vs) (fun a => T a ∨ U a) (.cons (s2.drep hv fun a ha => (hT.at_ a ha).2.1) hvs (fun _ h => .inl h) (fun _ h => .inr h) fun a h1 h2 => (hT.at_ a h1).2.2.2.ne (hU.at_ a h2).2.2.1) (hT2.or hU fun a ha => ?_)
  by_cases hh : H a = none
  · exact hh
  · exact absurd ha (s1.live a hh)
theorem evAs_len {c : Cfg} {ρ : Sl} : ∀ {xs : List Ax} {M M' : Mem} {ds : List (Md × D)}, evAs c xs ρ M = .ok ds M' → ds.length = xs.length
  | [], M, M', ds, h => by simp only [evAs] at h; cases h; rfl
  | x :: xs, M, M', ds, h => by
    simp only [evAs] at h
    cases e1 : evA c x ρ M with
    | ok d M1 =>
      rw [e1, R.bind_ok] at h
      cases e2 : evAs c xs ρ M1 with
      | ok r M2 => rw [e2, R.bind_ok] at h; cases h; simp [evAs_len e2]
      | ex _ _ => rw [e2] at h; cases h
      | st => rw [e2] at h; cases h
    | ex _ _ => rw [e1] at h; cases h
    | st => rw [e1] at h; cases h
theorem res_lstA {ι0 ι : List Addr} {F0 F H0 H : Hp} {σ : L2.St} {M : Mem} {rs : List (Md × D)} {vs : List V} {T : Addr → Prop} {p : Addr} {Q : VK} (s0 : Stp ι0 F0 H0 ι F H) (f : FSub F H) (mr : MemRep X.K ι F M H) (hp : H p = none) (r : DRepA X.K ι F H vs rs T) (hn : New ι F H0 H T)
    (q : Res X.K cl W ι F σ H (lstA rs M) fun d _ ι' F' H' => ∀ v T, DRep X.K ι' F' H' d.1 v d.2 T → New ι' F' H0 H' T → Q v H') : Q (.ref p) (upd H p (.lst vs)) := by
  unfold lstA at q
  split at q
  · rename_i m hm
    exact own_lst s0 f mr hp (r.join (joinM_ok hm)) hn q
  · exact q.elim
theorem s_lstA {xs : List Ax} {es : List Expr} {pos : Pos} {c : Cfg} (h : PA X es (tAO X.K cl W (evAs c xs))) (hl : xs.length ≤ 1000) : PE X (.List es pos) (tO X.K cl W (evA c (.lst xs))) := by
  refine PE.weak (pe_lst h) fun σ H Q q => ?_
  obtain ⟨ι, F, ρ, M, r, q⟩ := q
  simp only [evA] at q
  refine ⟨ι, F, ρ, M, r, q.bind.imp' fun ds M1 el ι1 F1 H1 s1 f1 m1 q1 vs T hvs hT => ⟨?_, fun p hp => res_lstA s1 f1 m1 hp hvs hT q1⟩⟩
  rw [hvs.length, evAs_len el]; exact small1000' hl
theorem s_dict0A {t : Bool} {pos : Pos} {c : Cfg} : PE X (.Dict [] [] pos) (tO X.K cl W (evA c (.dict0 t))) := by
  have key : ∀ {σ : L2.St} {H : Hp} {Q : VK} (o : HO), tO X.K cl W (evA c (.dict0 t)) σ H Q → (∀ p, DicAt (upd H p o) p t []) → ∀ p, H p = none → Q (.ref p) (upd H p o) := fun {σ H Q} o z hd p hp => by
    obtain ⟨ι, F, ρ, M, r, z⟩ := z
    simp only [evA] at z
    have hF : F p = none := by
      cases e : F p with
      | none => rfl
      | some u => exact absurd hp (r.sub.isSome e)
    have hi : p ∉ ι := fun h => (r.mem.there h).1 hp
    obtain ⟨f2, m2⟩ := out_upd (o := o) r.sub r.mem hF hi
    exact z ι F _ (Stp.refl.upd hp) f2 m2 (.ref p) (fun a => a = p) (.dic (T := fun _ => False) (fun z => by cases z) (hd p) rfl (fun h => h) (fun _ h => h.elim) .nil) ⟨fun a ha => by
      subst ha; exact ⟨hF, hi, hp, (hd a).ld⟩⟩
  cases t with
  | false => exact PE.weak pe_dnewK fun σ H Q z => key _ z fun p => ⟨[], upd_same, rfl⟩
  | true => exact PE.weak pe_dnewT fun σ H Q z => key _ z fun p => ⟨[], upd_same, rfl⟩
theorem s_ixA {a b : Expr} {pos : Pos} {ra : Sl → Mem → VL.R (Md × D)} {rb : Sl → Mem → VL.R D} (hp : pixB b = true) (ha : PE X a (tO X.K cl W ra)) (hb : PE X b (tE X.K cl W rb)) :
    PE X (.Subscript a b pos) (tO X.K cl W fun ρ M => (ra ρ M).bind fun x M1 => (rb ρ M1).bind fun y M2 => R.of (ixA x y) M2) := by
  refine PE.weak (pe_ix ix_list ha hb (pix_ok hp)) fun σ H Q q => ?_
  obtain ⟨ι, F, ρ, M, r, q⟩ := q
  refine ⟨ι, F, ρ, M, r, q.bind.imp fun x M1 ι1 F1 H1 s1 f1 m1 q1 v T hv hT => ?_⟩
  refine ⟨ι1, F1, ρ, M1, r.step s1 f1 m1, q1.bind.imp fun y M2 ι2 F2 H2 s2 f2 m2 q2 w hw => ?_⟩
  have hv2 := s2.drep hv fun a ha => (hT.at_ a ha).2.1
  have hT2 := s2.new_ hT
  unfold ixA at q2
  split at q2
  · rename_i ds i e1
    cases e2 : L2.atI ds i with
    | none => rw [e2] at q2; exact q2.elim
    | some d =>
      rw [e2] at q2
      rw [e1] at hv2
      rw [hw.getInt]
      cases hv2 with
      | fz hr e =>
        cases hr with
        | lst a1 r1 =>
          obtain ⟨z, e3, r2⟩ := r1.atI e2
          refine ⟨_, _, _, z, rfl, rfl, f2.sqL a1, e3, Res.of_ok q2 f2 m2 z (fun _ => False) (.fz r2 ?_) New.no⟩
          rcases e with e | e
          · rw [e]; exact .inl rfl
          · cases e
      | lst k1 k2 k3 k4 k5 k6 =>
        obtain ⟨z, A, e3, r2, kA⟩ := k6.atI e2
        exact ⟨_, _, _, z, rfl, rfl, .inl (.inl k2), e3, Res.of_ok q2 f2 m2 z A r2 ⟨fun a ha => hT2.at_ a (k5 a (kA a ha))⟩⟩
  · exact q2.elim
/-- a new list of settled parts -/
theorem s_fr (w : XW P nm cl n X sc W) {x : Ex} {e : Expr} (h : mE X.N nm x sc e = true) (hf : frB x = true) : PE X e (tO X.K cl W (evA (cfgN P n) (.fr x))) := by
  cases x with
  | blt b xs =>
    cases b <;> try (cases hf; done)
    unfold mE at h
    split at h
    · split at h
      · rename_i es _ _ _ x' _
        simp only [Bool.and_eq_true, decide_eq_true_eq, List.isEmpty_iff, Bool.not_eq_true'] at h
        obtain ⟨⟨⟨⟨h3, h4⟩, h5⟩, h6⟩, h7⟩ := h
        subst h5
        obtain ⟨g, o⟩ := w.gl h4
        obtain ⟨a1, b1, c1⟩ := okN_d o
        have hmg : X.mg x' = none := w.fx.blt x' (by rw [h3]; exact blt_mem .list)
        have hv : bootBuiltins x' = some (.type "list") := by rw [h3]; exact boot_blt .list
        cases es with
        | nil => cases h6
        | cons e1 es1 =>
          have hn : nst e1 = true := by
            cases xs with
            | nil => simp [mEs] at h7
            | cons y ys => simp only [mEs, Bool.and_eq_true] at h7; exact h7.1.1
          have hs : ∀ pos, (backTo pos (starEach es1 X.env)).any (·.1) = false := by
            intro pos
            cases xs with
            | nil => simp [mEs] at h7
            | cons y ys => simp only [mEs, Bool.and_eq_true] at h7; exact (star_any (P := P) h7.2).1
          refine PE.weak (pe_callTy (call_list_any w.calm) g hmg hv (sRs xs w h7) c1 a1 (star_ok hn) (hs _)) fun σ H Q z => ?_
          obtain ⟨ι, F, ρ, M, r, z⟩ := z
          simp only [evA, evE, R.bind_assoc] at z
          refine ⟨ι, F, ρ, M, r, Res.imp z.bind fun ds M1 ι1 F1 H1 s1 f1 m1 q vs hvs => ?_⟩
          cases eb : bltD .list ds with
          | none => rw [eb] at q; exact q.elim
          | some d =>
            rw [eb, R.of_some, R.bind_ok] at q
            unfold bltD at eb
            split at eb <;> try (rename_i hk; cases hk; done)
            · cases eb
              obtain ⟨v, rfl, r1⟩ := hvs.one
              obtain ⟨p, us, rfl, a2, r2⟩ := r1.lst f1
              exact .inl ⟨p, us, rfl, .inl a2, fun p hp => fr_new s1 f1 m1 hp r2 q⟩
            · cases eb
              obtain ⟨v, rfl, r1⟩ := hvs.one
              obtain ⟨p, us, rfl, a2, _, r2⟩ := r1.tup f1
              exact .inl ⟨p, us, rfl, .inr a2, fun p hp => fr_new s1 f1 m1 hp r2 q⟩
            · cases eb
              obtain ⟨v, rfl, r1⟩ := hvs.one
              rcases r1.dicA f1 with ⟨p, kvs, rfl, a2, r2⟩ | ⟨p, kvs, rfl, a2, r2⟩
              rotate_left
              · refine .inr (.inr ⟨p, kvs, rfl, a2, fun p bs hp hk => ?_⟩)
                obtain ⟨F2, s2, f2, m2, hk2⟩ := tups_in f1 m1 hk
                exact fr_new (s1.trans s2) f2 m2 hp (keys_reps r2 hk2) (Res.later2 q s2)
              exact .inr (.inl ⟨p, kvs, rfl, a2, fun p hp => fr_new s1 f1 m1 hp (repK_keys r2) q⟩)
            · cases eb
      · cases h
    · cases h
  | lrng xs =>
    unfold mE at h
    split at h
    · split at h
      · simp only [Bool.and_eq_true, decide_eq_true_eq, List.isEmpty_iff] at h
        obtain ⟨⟨⟨⟨⟨⟨⟨h1, h2⟩, h3⟩, h4⟩, h5⟩, h6⟩, h7⟩, h8⟩ := h
        subst h3 h6
        refine PE.weak (s_lrng (c := cfgN P n) w h1 h2 h4 h5 h7 h8 fun a ha e hm => (sE a w hm).1) fun σ H Q z => ?_
        obtain ⟨ι, F, ρ, M, r, z⟩ := z
        simp only [evA, evE, R.bind_assoc, R.bind_ok] at z
        refine ⟨ι, F, ρ, M, r, ?_⟩
        rw [← R.bind_assoc] at z
        exact (Res.bind z).imp fun its M1 ι1 F1 H1 s1 f1 m1 q p vs hp rv => fr_new s1 f1 m1 hp rv q
      · cases h
    · cases h
  | sl a lo hi =>
    unfold mE at h
    split at h
    · rename_i ea eb pos
      split at h
      · rename_i l u st p2
        simp only [Bool.and_eq_true, Option.isNone_iff_eq_none] at h
        obtain ⟨⟨⟨h1, ha⟩, hl⟩, hu⟩ := h
        subst h1
        refine PE.weak (pe_slice sl_list (sE a w ha).1 (sO (fun e h => (sE lo w h).1) hl) (sO (fun e h => (sE hi w h).1) hu)) fun σ H Q z => ?_
        obtain ⟨ι, F, ρ, M, r, z⟩ := z
        simp only [evA, evE, R.bind_assoc] at z
        refine ⟨ι, F, ρ, M, r, z.bind.imp fun x M1 ι1 F1 H1 s1 f1 m1 q1 v hv => ?_⟩
        have r1 := r.step s1 f1 m1
        refine ⟨ι1, F1, ρ, M1, r1, q1.bind.imp fun y M2 ι2 F2 H2 s2 f2 m2 q2 => ?_⟩
        have r2 := r1.step s2 f2 m2
        cases ey : partX lo y with
        | none => rw [ey] at q2; exact q2.elim
        | some l =>
          rw [ey, R.of_some, R.bind_ok] at q2
          refine ⟨l, rfl, ι2, F2, ρ, M2, r2, q2.bind.imp fun z M3 ι3 F3 H3 s3 f3 m3 q3 => ?_⟩
          cases ez : partX hi z with
          | none => rw [ez] at q3; exact q3.elim
          | some u =>
            rw [ez, R.of_some, R.bind_ok] at q3
            refine ⟨u, rfl, ?_⟩
            cases x with
            | lst ds =>
              simp only [slD, R.of_some, R.bind_ok] at q3
              cases hv with
              | lst a1 rr =>
                exact ⟨_, _, rfl, f3.sqL (SqL.mono s3.subF (SqL.mono s2.subF a1)), fun p hp => fr_new ((s1.trans s2).trans s3) f3 m3 hp ((s3.reps (s2.reps rr)).cut l u) q3⟩
            | tup ds =>
              exfalso
              simp only [slD] at q3
              split at q3
              · exact q3
              · exact q3
            | _ => exact (show False from q3).elim
      · cases h
    · cases h
  | bin o a b =>
    cases o <;> try (cases hf; done)
    unfold mE at h
    split at h
    · rename_i ea op eb pos
      simp only [Bool.and_eq_true] at h
      obtain ⟨⟨ho, ha⟩, hb⟩ := h
      rw [mOp_eq ho]
      refine PE.weak (pe_op op_addL (sE a w ha).1 (sE b w hb).1) fun σ H Q z => ?_
      obtain ⟨ι, F, ρ, M, r, z⟩ := z
      simp only [evA, evE, R.bind_assoc] at z
      refine ⟨ι, F, ρ, M, r, z.bind.imp fun x M1 ι1 F1 H1 s1 f1 m1 q1 v hv => ?_⟩
      refine ⟨ι1, F1, ρ, M1, r.step s1 f1 m1, q1.bind.imp fun y M2 ι2 F2 H2 s2 f2 m2 q2 u hu => ?_⟩
      cases e : binD .add x y with
      | none => rw [e] at q2; exact q2.elim
      | some d =>
        rw [e, R.of_some, R.bind_ok] at q2
        unfold binD at e
        split at e <;> try (cases e; done)
        all_goals first | (cases e; exact (show False from q2).elim) | skip
        all_goals try (split at e <;> first | (cases e; done) | (cases e; exact (show False from q2).elim) | skip)
        all_goals first
          | (cases e
             rename_i hl
             cases hv with
             | lst a1 r1 => cases hu with
               | lst a2 r2 =>
                 exact ⟨_, _, _, _, rfl, rfl, f2.sqL (SqL.mono s2.subF a1), f2.sqL a2, by rw [r1.length, r2.length]; exact hl, fun p hp => fr_new (s1.trans s2) f2 m2 hp ((s2.reps r1).append r2) q2⟩)
          | skip
    · cases h
  | _ => cases hf
end
end VL
/-! V7B: comprehensions of things of one's own; the theorem of things of one's own -/
namespace VL
open PySem PySem.Spec PyProof.Rows L2
section
variable {P : Prog} {nm : Nms} {cl : Nat → Value} {n : Nat} {X : Cx} {sc : Scope} {W : WXX}
/-- where a walk comes from -/
theorem walk_of (w : XW P nm cl n X sc W) {k : ItK} {args : List Ex} {tg iter : Expr}
    (hit : (match k with
            | .seq => (match args with | [a] => mE X.N nm a sc iter && (match iter with | .Set _ _ _ => false | _ => true) | _ => false)
            | _ => (match iter with
              | .Call fn es kws _ => (match fn with
                | .Name x _ => glB sc x && kws.isEmpty && mEs X.N nm args sc es && itB k x es.length tg
                | _ => false)
              | _ => false)) = true) :
    (∀ a b c, iter ≠ .Set a b c) ∧ ∃ ri, PI X tg iter (tI X.K cl W ri) ∧ ∀ ρ M, ri ρ M = (evEs (cfgN P n) args ρ M).bind fun ds M1 => R.of (itD k ds) M1 := by
  cases k with
  | seq =>
    cases args with
    | nil => cases hit
    | cons a as =>
      cases as with
      | cons _ _ => cases hit
      | nil =>
        simp only [Bool.and_eq_true] at hit
        refine ⟨fun a b c e => (by rw [e] at hit; cases hit.2), _, s_iseq (sE a w hit.1).1, fun ρ M => ?_⟩
        simp only [evEs, R.bind_assoc, R.bind_ok]
  | _ =>
    dsimp only at hit
    split at hit <;> try (cases hit; done)
    split at hit <;> try (cases hit; done)
    rename_i es kws _ _ x _
    simp only [Bool.and_eq_true, List.isEmpty_iff] at hit
    obtain ⟨⟨⟨h1, h2⟩, h3⟩, h4⟩ := hit
    subst h2
    exact ⟨fun a b c e => (by cases e), walk_call w h1 h4 h3 (sEs args w h3) fun a ha e hm => (sE a w hm).1⟩

theorem New.step {ι ι' : List Addr} {F F' H H' H0 : Hp} {T : Addr → Prop} (s : Stp ι F H ι' F' H') (n : New ι F H0 H T) : New ι' F' H0 H' T := s.new_ n
def compG (c : Cfg) (elt : Ax) (p : Pt) (conds : List Ex) (own : List Nat) (ρ : Sl) : D → Mem → VL.R (Option (Md × D)) := fun d M3 => match bindP p d (killS ρ own) with
  | some ρ' => (evAll c conds ρ' M3).bind fun b M4 => if b = true then (evA c elt ρ' M4).bind fun y M5 => .ok (some y) M5 else .ok none M4
  | none => .st
structure CompAtA (K : PySem.W.Frag) (f : D → Mem → VL.R (Option (Md × D))) (items : List D) (rs : List (Md × D)) (M3 : Mem) (ι2 : List Addr) (F2 H2 : Hp) (D : Addr) (i : Nat) (H : Hp) : Prop where
  ex : ∃ ι F Mi vs acc rest T, Stp ι2 F2 H2 ι F H ∧ FSub F H ∧ MemRep K ι F Mi H ∧ H D = some (.lst vs) ∧ DRepA K ι F H vs acc T ∧ New ι F H2 H T ∧ ¬ T D ∧ F D = none ∧ D ∉ ι ∧ acc.length ≤ i ∧ compL f (items.drop i) Mi = .ok rest M3 ∧ acc ++ rest = rs
theorem compA_run {K : PySem.W.Frag} {c : Cfg} {ρ : Sl} {σ : L2.St} {elt : Ax} {p : Pt} {conds : List Ex} {own : List Nat} {items : List D} {rs : List (Md × D)} {M3 : Mem} {ι2 : List Addr} {F2 H2 : Hp} {J : It} {D : Addr} {Q : VK} {Mz : Mem} {te : TE} {tt : TT}
    (r : SR K ι2 F2 ρ Mz σ H2) (wk : Wk K J ι2 F2 H2 items) (hl : items.length ≤ sizeLine) (hD : H2 D = none) (he : compL (compG c elt p conds own ρ) items Mz = .ok rs M3) (hp : ∀ i ∈ ptV p, i ∈ own)
    (hte : ∀ σ H Q, tO K cl (fun _ _ _ _ => False) (evA c elt) σ H Q → te σ H Q) (htt : ∀ σ H Q, tT K cl (fun _ _ _ _ => False) (evAll c conds) σ H Q → tt σ H Q)
    (q : ∀ ι' F' H' vs T, Stp ι2 F2 H2 ι' F' H' → FSub F' H' → MemRep K ι' F' M3 H' → H' D = some (.lst vs) → DRepA K ι' F' H' vs rs T → New ι' F' H2 H' T → ¬ T D → F' D = none → D ∉ ι' → Q (.ref D) H') :
    ∃ W : Nat → Nat → Hp → Prop, (∃ m, W 0 m (upd H2 D (.lst []))) ∧ ∀ i m H, W i m H →
      (J.stop i H ∧ Q (.ref D) H) ∨ (J.go i H ∧ ∃ Nx : Hp → Prop, (∀ H', Nx H' → ∃ m', m' < m ∧ W (i + 1) m' H') ∧ ∀ x H', J.yld i H x H' → tG K p x (wipe σ own) H' fun σ2 H2 => wipe σ2 own = wipe σ own ∧ tt σ2 H2 fun b H3 =>
        if b = true then te σ2 H3 fun y H4 => ∃ acc, H4 D = some (.lst acc) ∧ acc.length < sizeLine ∧ Nx (upd H4 D (.lst (acc ++ [y]))) else Nx H3) := by
  have hF2 : F2 D = none := by
    cases e : F2 D with
    | none => rfl
    | some u => exact absurd hD (r.sub.isSome e)
  have hi2 : D ∉ ι2 := fun h => (r.mem.there h).1 hD
  refine ⟨fun i m H => m = items.length - i ∧ i ≤ items.length ∧ CompAtA K (compG c elt p conds own ρ) items rs M3 ι2 F2 H2 D i H, ⟨items.length, rfl, Nat.zero_le _, ?_⟩, ?_⟩
  · obtain ⟨a1, a2⟩ := out_upd (o := .lst []) r.sub r.mem hF2 hi2
    exact ⟨ι2, F2, Mz, [], [], rs, fun _ => False, Stp.refl.upd hD, a1, a2, upd_same, .nil, New.no, fun h => h, hF2, hi2, Nat.le_refl _, by simpa using he, rfl⟩
  · rintro i m H ⟨rfl, hi, ⟨ι, F, Mi, vs, acc, rest, T, st, f, mr, hd, hv, hT, hTD, hF, hn, ha, hc, er⟩⟩
    by_cases hlt : i < items.length
    · refine .inr ⟨wk.go i F H st.subF f (st.kp r.mem) hlt, fun H' => CompAtA K (compG c elt p conds own ρ) items rs M3 ι2 F2 H2 D (i + 1) H', fun H' h => ⟨items.length - (i + 1), by omega, rfl, by omega, h⟩, fun x H' y => ?_⟩
      obtain ⟨d, F', e1, s1, f1, m1, rx⟩ := wk.yld i ι F H Mi x H' st.ix st.subF f (st.kp r.mem) mr y hlt
      obtain ⟨d1, d2, d3⟩ := s1.own hd hF hn
      have edrop : items.drop i = d :: items.drop (i + 1) := by
        rw [List.drop_eq_getElem_cons hlt]
        rw [List.getElem?_eq_getElem hlt] at e1
        cases e1; rfl
      rw [edrop] at hc
      obtain ⟨o, M1, rr, c1, c2, c3⟩ := compL_cons_ok hc
      unfold compG at c1
      split at c1
      · rename_i ρ' eb
        obtain ⟨O, r1⟩ : SR K ι F' ρ Mi σ H' := (r.step st f mr).step s1 f1 m1
        refine ⟨ι, F', O, killS ρ own, Mi, d, ρ', r1.wipe own, rx, eb, fun σ' r2 out => ⟨out.wipe hp, htt _ _ _ ⟨ι, F', ρ', Mi, ⟨O, r2⟩, ?_⟩⟩⟩
        cases ec : evAll c conds ρ' Mi with
        | ok b M4 =>
          rw [ec, R.bind_ok] at c1
          intro ι4 F4 H4 s4 f4 m4
          obtain ⟨g1, g2, g3⟩ := s4.own d1 d2 d3
          have s14 := s1.trans s4
          have hT4 := s14.new_ hT
          have hv4 : DRepA K ι4 F4 H4 vs acc T := hv.mono s14.ix s14.subF fun a h => ⟨h, fun u e => s14.keep a u e (hT.at_ a h).2.1⟩
          cases b with
          | true =>
            rw [if_pos rfl] at c1 ⊢
            refine hte _ _ _ ⟨ι4, F4, ρ', M4, ⟨O, r2.step s4 f4 m4⟩, ?_⟩
            cases ee : evA c elt ρ' M4 with
            | ok y M5 =>
              rw [ee, R.bind_ok] at c1
              cases c1
              intro ι5 F5 H5 s5 f5 m5 v T5 hv5 hT5
              obtain ⟨k1, k2, k3⟩ := s5.own g1 g2 g3
              have hvs : DRepA K ι5 F5 H5 vs acc T := hv4.mono s5.ix s5.subF fun a h => ⟨h, fun u e => s5.keep a u e (hT4.at_ a h).2.1⟩
              refine ⟨vs, k1, by rw [hvs.length]; omega, ?_⟩
              obtain ⟨a1, a2⟩ := out_upd (o := .lst (vs ++ [v])) f5 m5 k2 k3
              have nT5 : ¬ T5 D := fun h => by
                have := (hT5.at_ D h).2.2.1
                rw [g1] at this; cases this
              have dis : ∀ a, T a → ¬ T5 a := fun a h1 h2 => (hT4.at_ a h1).2.2.2.ne (hT5.at_ a h2).2.2.1
              have hall : DRepA K ι5 F5 H5 (vs ++ [v]) (acc ++ [y]) fun a => T a ∨ T5 a := hvs.append (.cons (B := fun _ => False) hv5 .nil (fun _ h => h) (fun _ h => h.elim) fun _ _ h => h) (fun _ h => .inl h) (fun _ h => .inr h) dis
              have hnT : ∀ a, T a ∨ T5 a → a ≠ D := fun a h e => by
                subst e; exact h.elim hTD nT5
              have sAll := (st.trans s14).trans s5
              have hTn : New ι5 F5 H2 H5 fun a => T a ∨ T5 a := (s5.new_ hT4).or hT5 fun a h => by
                by_cases hh : H2 a = none
                · exact hh
                · exact absurd h ((st.trans s14).live a hh)
              exact ⟨ι5, F5, M1, vs ++ [v], acc ++ [y], rr, fun a => T a ∨ T5 a, sAll.upd hD, a1, a2, upd_same, hall.mono (fun _ _ h => h) (fun _ _ h => h) fun a h => ⟨h, fun u e => by rw [upd_ne (hnT a h)]; exact e⟩,
                ⟨fun a h => let ⟨h1, h2, h3, h4⟩ := hTn.at_ a h; ⟨h1, h2, h3, h4.upd (hnT a h)⟩⟩, fun h => h.elim hTD nT5, k2, k3, by simp; omega, c2, by rw [← er, c3]; simp⟩
            | ex _ _ => rw [ee] at c1; cases c1
            | st => rw [ee] at c1; cases c1
          | false =>
            rw [if_neg (by decide)] at c1 ⊢
            cases c1
            exact ⟨ι4, F4, M1, vs, acc, rr, T, st.trans s14, f4, m4, g1, hv4, hT4, hTD, g2, g3, by omega, c2, by rw [← er, c3]⟩
        | ex _ _ => rw [ec] at c1; cases c1
        | st => rw [ec] at c1; cases c1
      · cases c1
    · have e : i = items.length := by omega
      subst e
      refine .inl ⟨wk.stop F H st.subF f (st.kp r.mem), ?_⟩
      rw [List.drop_length] at hc
      simp only [compL] at hc
      cases hc
      rw [List.append_nil] at er
      subst er
      exact q ι F H vs T st f mr hd hv hT hTD hF hn
def CompTA (P : Prog) (n : Nat) (cl : Nat → Value) (W : WXX) (X : Cx) (elt : Ax) (p : Pt) (k : ItK) (args conds : List Ex) (own : List Nat) (ee tg iter : Expr) (ifs : List Expr) (scope : Scope) : Prop :=
  ∃ t : TE, (∀ pos, PE X (.ListComp ee [⟨tg, iter, ifs, 0⟩] scope pos) t) ∧
      (∀ {i : Nat} {y : Str} {py pos spos : Pos}, X.N[i]? = some y → X.env.scope.names.lookup y = some .local → swapsWith (.ListComp ee [⟨tg, iter, ifs, 0⟩] scope pos) (some (.Name y py)) spos.line X.env = pure true → PS X (.Assign [.Name y py] (.ListComp ee [⟨tg, iter, ifs, 0⟩] scope pos) spos) (tAsg t (gName i))) ∧
      ∀ σ H Q, tO X.K cl W (evA (cfgN P n) (.comp elt p k args conds own)) σ H Q → t σ H Q
theorem s_compPartsA (w : XW P nm cl n X sc W) {elt : Ax} {p : Pt} {conds : List Ex} {own : List Nat} {k : ItK} {args : List Ex} {ee tg iter : Expr} {ifs : List Expr} {scope : Scope} {ri : Sl → Mem → VL.R (List D)}
    (hb : blkC X.N sc scope (own.map fun i => (X.N.getD i "", i)) = true) (hp : mP X.N scope p tg = true) (hpo : (ptV p).all (fun i => own.contains i) = true) (hset : ∀ a b c, iter ≠ .Set a b c)
    (hi : PI X tg iter (tI X.K cl W ri)) (hri : ∀ ρ M, ri ρ M = (evEs (cfgN P n) args ρ M).bind fun ds M1 => R.of (itD k ds) M1) (hcl : conds.length ≤ 1) (hcl2 : conds.length = ifs.length)
    (he : ∀ (X' : Cx), X'.N = X.N → X'.K = X.K → XW P nm cl n X' scope (fun _ _ _ _ => False) → PE X' ee (tO X'.K cl (fun _ _ _ _ => False) (evA (cfgN P n) elt)))
    (hc : ∀ (X' : Cx), X'.N = X.N → X'.K = X.K → XW P nm cl n X' scope (fun _ _ _ _ => False) → ∀ x e, conds = [x] → ifs = [e] → PT X' e (tT X'.K cl (fun _ _ _ _ => False) (evT (cfgN P n) x))) :
    CompTA P n cl W X elt p k args conds own ee tg iter ifs scope := by
  have eown : (own.map fun i => (X.N.getD i "", i)).map (·.2) = own := by rw [List.map_map]; exact List.map_id' own
  have hw := fun s H C cs fp => w.blk (scope := scope) s H C cs fp
  have hpts : ∀ (s : Shared) (H : Hp) (C : Addr) (cs : List (Str × Addr)) (fp : List Addr), PTs (X.blk s H scope (compEnvC scope cs C X.env) fp) ifs (ttOf X.K cl (fun _ _ _ _ => False) (cfgN P n) conds) := fun s H C cs fp =>
    s_pts (X := X.blk s H scope (compEnvC scope cs C X.env) fp) (W := fun _ _ _ _ => False) hcl hcl2 (hc _ rfl rfl (hw s H C cs fp))
  refine ⟨tLc (tI X.K cl W ri) (tG X.K p) (ttOf X.K cl (fun _ _ _ _ => False) (cfgN P n) conds) (tO X.K cl (fun _ _ _ _ => False) (evA (cfgN P n) elt)) own, fun pos => ?_, fun {i y py pos spos} h1 h2 h3 => ?_, fun σ H Q z => ?_⟩
  · have base := pe_lc (X := X) (elt := ee) (tg := tg) (iter := iter) (ifs := ifs) (scope := scope) (pos := pos) (own := own.map fun i => (X.N.getD i "", i)) (g := tG X.K p) (tt := ttOf X.K cl (fun _ _ _ _ => False) (cfgN P n) conds) (te := tO X.K cl (fun _ _ _ _ => False) (evA (cfgN P n) elt)) w.calm w.nd hi (blk_ok w hb)
      (fun s H C cs fp => s_pat (hw s H C cs fp) hp) hpts (fun s H C cs fp => he _ rfl rfl (hw s H C cs fp)) (set_ok hset)
    rw [eown] at base
    exact base
  · have base := ps_setLc (X := X) (elt := ee) (tg := tg) (iter := iter) (ifs := ifs) (scope := scope) (pos := pos) (spos := spos) (own := own.map fun i => (X.N.getD i "", i)) (g := tG X.K p) (tt := ttOf X.K cl (fun _ _ _ _ => False) (cfgN P n) conds) (te := tO X.K cl (fun _ _ _ _ => False) (evA (cfgN P n) elt)) w.calm w.nd h1 h2 h3 hi (blk_ok w hb)
      (fun s H C cs fp => s_pat (hw s H C cs fp) hp) hpts (fun s H C cs fp => he _ rfl rfl (hw s H C cs fp)) (set_ok hset)
    rw [eown] at base
    exact base
  obtain ⟨ι, F, ρ, M, r, z⟩ := z
  have z : Res X.K cl W ι F σ H ((ri ρ M).bind fun items M2 => ((compL (compG (cfgN P n) elt p conds own ρ) items M2).nox).bind fun rs M3 => lstA rs M3) (fun d _ ι' F' H' => ∀ v T, DRep X.K ι' F' H' d.1 v d.2 T → New ι' F' H H' T → Q v H') := by
    rw [hri, R.bind_assoc]
    simp only [evA] at z
    exact z
  refine ⟨ι, F, ρ, M, r, z.bind.imp fun items M2 ι2 F2 H2 s2 f2 m2 q J wk hl D hD => ?_⟩
  cases e : compL (compG (cfgN P n) elt p conds own ρ) items M2 with
  | ok rs M3 =>
    rw [e] at q
    refine compA_run (r.step s2 f2 m2) wk hl hD e (fun i hi => by
      have := List.all_eq_true.mp hpo i hi
      simpa using this) (fun _ _ _ z => z) (tt_imp hcl) fun ι' F' H' vs T s f m hd hv hT hTD hF hn => ?_
    have q' : Res X.K cl W ι2 F2 σ H2 (lstA rs M3) _ := q
    unfold lstA at q'
    split at q'
    · rename_i md hmd
      refine q' ι' F' H' s f m (.ref D) (fun a => a = D ∨ T a) (.lst (T := T) md.up_ne hd (.inl rfl) hTD (fun b h => .inr h) ?_) ⟨fun a ha => ?_⟩
      · rw [Md.dn_up]; exact hv.join (joinM_ok hmd)
      · have back : ∀ a, H2 a = none → H a = none := fun a h => by
          by_cases hh : H a = none
          · exact hh
          · exact absurd h (s2.live a hh)
        rcases ha with rfl | ha
        · exact ⟨hF, hn, back _ hD, ⟨⟨_, hd, rfl⟩⟩⟩
        · obtain ⟨h1, h2, h3, h4⟩ := hT.at_ a ha
          exact ⟨h1, h2, back a h3, h4⟩
    · exact q'.elim
  | ex _ _ => rw [e] at q; exact q.elim
  | st => rw [e] at q; exact q.elim
theorem compOfA {elt : Ax} {p : Pt} {k : ItK} {args conds : List Ex} {own : List Nat} {ee tg iter : Expr} {ifs : List Expr} {scope : Scope} {pos : Pos} (w : XW P nm cl n X sc W)
    (ihe : ∀ {X : Cx} {sc : Scope} {W : WXX} {e : Expr}, XW P nm cl n X sc W → mA X.N nm elt sc e = true → PE X e (tO X.K cl W (evA (cfgN P n) elt)))
    (h : mA X.N nm (.comp elt p k args conds own) sc (.ListComp ee [⟨tg, iter, ifs, 0⟩] scope pos) = true) : CompTA P n cl W X elt p k args conds own ee tg iter ifs scope := by
  unfold mA at h
  simp only [Bool.and_eq_true] at h
  obtain ⟨⟨h, hel⟩, hnk⟩ := h
  unfold mE at h
  dsimp only at h
  simp only [Bool.and_eq_true, decide_eq_true_eq] at h
  obtain ⟨⟨⟨⟨⟨⟨⟨⟨hb, hp⟩, hpo⟩, hown⟩, hcl⟩, htb⟩, hco⟩, _⟩, hit⟩ := h
  have hc : ∀ (X' : Cx), X'.N = X.N → X'.K = X.K → XW P nm cl n X' scope (fun _ _ _ _ => False) → ∀ x e, conds = [x] → ifs = [e] → PT X' e (tT X'.K cl (fun _ _ _ _ => False) (evT (cfgN P n) x)) := fun X' hN _ w' x e e1 e2 => by
    subst e2
    have ht : tstB x = true := by rw [e1] at htb; simpa [tstBs] using htb
    subst e1
    have hm : mE X.N nm x scope e = true := by
      simp only [mEs, Bool.and_eq_true] at hco
      exact hco.1.2
    exact (sE x w' (by rw [hN]; exact hm)).2 ht
  obtain ⟨hs, ri, hi, hr⟩ := walk_of (k := k) (args := args) (tg := tg) (iter := iter) w (by
    cases k <;> first | exact hit | (cases hnk; done) | skip
    cases args with
    | nil => exact hit
    | cons a as =>
      cases as with
      | cons _ _ => exact hit
      | nil =>
        simp only [Bool.and_eq_true] at hit ⊢
        exact ⟨hit.1, by
          have h2 := hit.2
          clear hit
          cases iter <;> first | rfl | exact h2⟩)
  exact s_compPartsA w hb hp hpo hs hi hr hcl (mEs_len hco) (fun X' hN _ w' => ihe w' (by rw [hN]; exact hel)) hc
mutual
theorem sA : ∀ (x : Ax) {X : Cx} {sc : Scope} {W : WXX} {e : Expr}, XW P nm cl n X sc W → mA X.N nm x sc e = true → PE X e (tO X.K cl W (evA (cfgN P n) x))
  | .e x, X, sc, W, e, w, h => by
    unfold mA at h
    refine PE.weak (sE x w h).1 fun σ H Q z => tO_e ?_
    obtain ⟨ι, F, ρ, M, r, z⟩ := z
    simp only [evA] at z
    exact ⟨ι, F, ρ, M, r, z⟩
  | .lst as, X, sc, W, e, w, h => by
    unfold mA at h
    split at h
    · simp only [Bool.and_eq_true, decide_eq_true_eq] at h
      exact s_lstA (sAs as w h.1) h.2
    · cases h
  | .dict0 _, X, sc, W, e, w, h => by
    unfold mA at h
    split at h
    · exact s_dict0A
    · cases h
  | .fr x, X, sc, W, e, w, h => by
    unfold mA at h
    rw [Bool.and_eq_true] at h
    exact s_fr w h.1 h.2
  | .call f xs, X, sc, W, e, w, h => by
    unfold mA at h
    unfold mE at h
    split at h
    · split at h
      · simp only [Bool.and_eq_true, decide_eq_true_eq, List.isEmpty_iff] at h
        obtain ⟨⟨⟨h1, h2⟩, h3⟩, h4⟩ := h
        subst h3
        exact PE.congO (s_callO w h1 h2 h4 (sEs xs w h4)) fun ρ M => by simp only [evA]
      · cases h
    · cases h
  | .ix a k, X, sc, W, e, w, h => by
    unfold mA at h
    split at h
    · simp only [Bool.and_eq_true] at h
      exact PE.congO (s_ixA h.1.1 (sA a w h.1.2) (sE k w h.2).1) fun ρ M => by simp only [evA]
    · cases h
  | .bor a, X, sc, W, e, w, h => by
    unfold mA at h
    refine PE.weak (sA a w h) fun σ H Q z => tO_bor ?_
    obtain ⟨ι, F, ρ, M, r, z⟩ := z
    simp only [evA] at z
    exact ⟨ι, F, ρ, M, r, z⟩
  | .dn a, X, sc, W, e, w, h => by
    unfold mA at h
    refine PE.weak (sA a w h) fun σ H Q z => tO_dn ?_
    obtain ⟨ι, F, ρ, M, r, z⟩ := z
    simp only [evA] at z
    exact ⟨ι, F, ρ, M, r, z⟩
  | .comp elt p k args conds own, X, sc, W, e, w, h => by
    have h0 := h
    unfold mA at h
    split at h
    · split at h
      · rename_i ee scope lpos _ tg iter ifs
        obtain ⟨t, h1, _, h3⟩ := compOfA w (pos := lpos) (sA elt) h0
        exact PE.weak (h1 lpos) h3
      · cases h
    · cases h
theorem sAs : ∀ (xs : List Ax) {X : Cx} {sc : Scope} {W : WXX} {es : List Expr}, XW P nm cl n X sc W → mAs X.N nm xs sc es = true → PA X es (tAO X.K cl W (evAs (cfgN P n) xs))
  | [], X, sc, W, es, w, h => by
    simp only [mAs, List.isEmpty_iff] at h
    subst h
    have e : evAs (cfgN P n) [] = fun ρ M => .ok [] M := by funext ρ M; simp only [evAs]
    rw [e]
    exact s_pao_nil
  | x :: xs, X, sc, W, es, w, h => by
    cases es with
    | nil => simp [mAs] at h
    | cons e es =>
      simp only [mAs, Bool.and_eq_true] at h
      have e2 : evAs (cfgN P n) (x :: xs) = fun ρ M => (evA (cfgN P n) x ρ M).bind fun d M1 => (evAs (cfgN P n) xs ρ M1).bind fun ds M2 => .ok (d :: ds) M2 := by funext ρ M; simp only [evAs]
      rw [e2]
      exact s_pao_cons h.1.1 (sA x w h.1.2) (sAs xs w h.2)
end
end
end VL
/-! V8: statements: readings; what is one's own, on a path -/
namespace VL
open PySem PySem.Spec PyProof.Rows L2
section
variable {K : PySem.W.Frag} {ι ι' ι1 ι2 : List Addr} {F F' F1 F2 H H' H1 H2 : Hp} {O O' O1 O2 : Addr → Prop} {ρ ρ' ρ1 ρ2 : Sl} {M M' : Mem} {σ σ' σ1 σ2 : L2.St} {cl : Nat → Value} {W : WXX}
structure StS (ι : List Addr) (F : Hp) (O : Addr → Prop) (H : Hp) (ι' : List Addr) (F' : Hp) (O' : Addr → Prop) (H' : Hp) : Prop where
  pre : ∃ more, ι' = ι ++ more ∧ ∀ a ∈ more, H a = none
  subF : ∀ a u, F a = some u → F' a = some u
  newF : ∀ a, Ld H a → a ∉ ι → ¬ O a → F a = none → F' a = none
  newO : ∀ a, O' a → H a = none ∨ O a
  keep : ∀ a u, H a = some u → a ∉ ι → ¬ O a → H' a = some u
  live : ∀ a, H a ≠ none → H' a ≠ none
theorem Stp.toS (s : Stp ι F H ι' F' H') : StS ι F O H ι' F' O H' := ⟨s.pre, s.subF, fun a h n _ e => s.newF a h n e, fun a h => .inr h, fun a u h n _ => s.keep a u h n, s.live⟩
theorem StS.refl : StS ι F O H ι F O H := Stp.refl.toS
theorem StS.ix (s : StS ι F O H ι' F' O' H') : ∀ (n : Nat) a, ι[n]? = some a → ι'[n]? = some a := by
  obtain ⟨m, e, _⟩ := s.pre
  intro n a h
  rw [e, List.getElem?_append_left]
  · exact h
  · exact (List.getElem?_eq_some_iff.mp h).1
theorem StS.nin (s : StS ι F O H ι' F' O' H') {a : Addr} (h : a ∉ ι) (q : H a ≠ none) : a ∉ ι' := by
  obtain ⟨m, e, f⟩ := s.pre
  rw [e, List.mem_append]
  rintro (z | z)
  · exact h z
  · exact q (f _ z)
theorem StS.dead (s : StS ι F O H ι' F' O' H') {a : Addr} (h : H' a = none) : H a = none := by
  by_cases hh : H a = none
  · exact hh
  · exact absurd h (s.live a hh)
theorem StS.trans (s : StS ι F O H ι1 F1 O1 H1) (t : StS ι1 F1 O1 H1 ι2 F2 O2 H2) : StS ι F O H ι2 F2 O2 H2 := by
  refine ⟨?_, fun a u h => t.subF a u (s.subF a u h), fun a h n no e => ?_, fun a h => ?_, fun a u h n no => ?_, fun a h => t.live a (s.live a h)⟩
  · obtain ⟨m, e, f⟩ := s.pre
    obtain ⟨m', e', f'⟩ := t.pre
    refine ⟨m ++ m', by rw [e', e, List.append_assoc], fun a h => ?_⟩
    rcases List.mem_append.mp h with z | z
    · exact f a z
    · exact s.dead (f' a z)
  · refine t.newF a (h.to fun u q => s.keep a u q n no) (s.nin n h.ne) (fun q => ?_) (s.newF a h n no e)
    rcases s.newO a q with z | z
    · exact h.ne z
    · exact no z
  · rcases t.newO a h with q | q
    · exact .inl (s.dead q)
    · exact s.newO a q
  · refine t.keep a u (s.keep a u h n no) (s.nin n (by rw [h]; exact fun z => by cases z)) fun q => ?_
    rcases s.newO a q with z | z
    · rw [h] at z; cases z
    · exact no z
/-- a statement's result -/
def ResS (K : PySem.W.Frag) (cl : Nat → Value) (W : WXX) (ι : List Addr) (F : Hp) (O : Addr → Prop) (σ : L2.St) (H : Hp) (r : RS) (D : Ends) : Prop :=
  match r with
  | .nx ρ' M' => ∀ ι' F' O' H' σ', StS ι F O H ι' F' O' H' → SRO K ι' F' O' ρ' M' σ' H' → D.nx σ' H'
  | .rt d M' => ∀ ι' F' O' H' v T, StS ι F O H ι' F' O' H' → FSub F' H' → MemRep K ι' F' M' H' → DRep K ι' F' H' d.1 v d.2 T → (∀ a, T a → O' a ∧ F' a = none ∧ a ∉ ι' ∧ Ld H' a) → D.rt v H'
  | .bk ρ' M' => ∀ ι' F' O' H' σ', StS ι F O H ι' F' O' H' → SRO K ι' F' O' ρ' M' σ' H' → D.bk σ' H'
  | .ct ρ' M' => ∀ ι' F' O' H' σ', StS ι F O H ι' F' O' H' → SRO K ι' F' O' ρ' M' σ' H' → D.ct σ' H'
  | .ex c ρ' M' => ∀ ι' F' O' H' σ', StS ι F O H ι' F' O' H' → SRO K ι' F' O' ρ' M' σ' H' → W (cl c) none σ' H'
  | .st => False
def tS (K : PySem.W.Frag) (cl : Nat → Value) (W : WXX) (r : Sl → Mem → RS) : TS := fun D σ H => ∃ ι F O ρ M, SRO K ι F O ρ M σ H ∧ ResS K cl W ι F O σ H (r ρ M) D
variable {D : Ends} {r : RS}
theorem ResS.later (h : ResS K cl W ι F O σ H r D) (s : StS ι F O H ι1 F1 O1 H1) : ResS K cl W ι1 F1 O1 σ1 H1 r D := by
  cases r with
  | nx ρ' M' => exact fun ι' F' O' H' σ' s' r' => h _ _ _ _ _ (s.trans s') r'
  | rt d M' => exact fun ι' F' O' H' v T s' f m hv hT => h _ _ _ _ _ _ (s.trans s') f m hv hT
  | bk ρ' M' => exact fun ι' F' O' H' σ' s' r' => h _ _ _ _ _ (s.trans s') r'
  | ct ρ' M' => exact fun ι' F' O' H' σ' s' r' => h _ _ _ _ _ (s.trans s') r'
  | ex c ρ' M' => exact fun ι' F' O' H' σ' s' r' => h _ _ _ _ _ (s.trans s') r'
  | st => exact h
theorem ResS.to {α : Type} {e : VL.R α} {f : α → Mem → RS} (r0 : SRO K ι F O ρ M σ H) (h : ResS K cl W ι F O σ H (e.to ρ f) D) :
    Res K cl W ι F σ H e fun d M1 ι1 F1 H1 => ResS K cl W ι1 F1 O σ H1 (f d M1) D := by
  cases e with
  | ok d M1 => exact fun ι1 F1 H1 s1 f1 m1 => ResS.later h s1.toS
  | ex c M1 => exact fun ι1 F1 H1 s1 f1 m1 => h _ _ _ _ _ s1.toS (r0.step s1 f1 m1)
  | st => exact h
theorem ResS.seq {f : Sl → Mem → RS} (h : ResS K cl W ι F O σ H (r.seq f) D) : ResS K cl W ι F O σ H r { D with nx := tS K cl W f D } := by
  cases r with
  | nx ρ' M' => exact fun ι' F' O' H' σ' s' r' => ⟨ι', F', O', ρ', M', r', ResS.later h s'⟩
  | rt d M' => exact h
  | bk ρ' M' => exact h
  | ct ρ' M' => exact h
  | ex c ρ' M' => exact h
  | st => exact h
/-- things of one's own that are apart from all slots -/
structure Sep (ι : List Addr) (F : Hp) (O : Addr → Prop) (H : Hp) (T : Addr → Prop) : Prop where
  at_ : ∀ a, T a → ¬ O a ∧ F a = none ∧ a ∉ ι ∧ Ld H a
theorem New.sep {H0 : Hp} {T : Addr → Prop} (n : New ι F H0 H T) (h : ∀ a, O a → H0 a ≠ none) : Sep ι F O H T := ⟨fun a ha => let ⟨h1, h2, h3, h4⟩ := n.at_ a ha; ⟨fun z => h a z h3, h1, h2, h4⟩⟩
theorem Stp.sep {T : Addr → Prop} (s : Stp ι F H ι' F' H') (n : Sep ι F O H T) : Sep ι' F' O H' T :=
  ⟨fun a ha => let ⟨h1, h2, h3, h4⟩ := n.at_ a ha; ⟨h1, s.noneF h2 h4 h3, s.nin h3 h4.ne, s.ld h4 h3⟩⟩
/-- a slot's thing is settled -/
theorem SRO.freeze {i : Nat} {m : Md} {d : VL.D} (r : SRO K ι F O ρ M σ H) (h : ρ[i]? = some (.ow m d)) : ∃ F' O', StS ι F O H ι F' O' H ∧ SRO K ι F' O' (ρ.set i (.fz d)) M σ H := by
  classical
  obtain ⟨S, h1, h2, h3⟩ := r.ow
  obtain ⟨v, e1, dr⟩ := h1 i m d h
  have mono : ∀ b w, F b = some w → (if S i b then H b else F b) = some w := fun b w hb => by
    rw [if_neg (fun z => by rw [(r.own b (h2 i b z)).1] at hb; cases hb)]; exact hb
  have hi : i < ρ.length := (List.getElem?_eq_some_iff.mp h).1
  refine ⟨fun b => if S i b then H b else F b, fun b => O b ∧ ¬ S i b, ⟨⟨[], by simp, by simp⟩, mono, fun b hb _ no e => ?_, fun b hb => .inr hb.1, fun b w hb _ _ => hb, fun _ hb => hb⟩, ⟨fun b w hb => ?_, ⟨r.mem.len, r.mem.nd, fun k b mo g1 g2 => ?_⟩, by simp [r.len], fun j d' hj => ?_, fun a ha => ?_, fun j a => j ≠ i ∧ S j a, fun j m' d' hj => ?_, fun j a ha => ?_, fun j k a z1 z2 => h3 j k a z1.2 z2.2⟩⟩
  · show (if S i b then H b else F b) = none
    rw [if_neg fun z => no (h2 i b z)]; exact e
  · have hb : (if S i b then H b else F b) = some w := hb
    by_cases z : S i b
    · rw [if_pos z] at hb; exact .inl hb
    · rw [if_neg z] at hb; exact r.sub b w hb
  · obtain ⟨q1, q2⟩ := r.mem.at_ k b mo g1 g2
    refine ⟨?_, q2.mono (fun _ _ h => h) mono fun _ h => h⟩
    show (if S i b then H b else F b) = none
    rw [if_neg (fun z => (r.own b (h2 i b z)).2.1 (List.mem_of_getElem? g1))]; exact q1
  · by_cases ej : i = j
    · subst ej
      rw [List.getElem?_set_self hi] at hj
      cases hj
      exact ⟨v, e1, dr.settle mono fun a u ha hu _ => by rw [if_pos ha]; exact hu⟩
    · rw [List.getElem?_set_ne ej] at hj
      obtain ⟨w, e2, rv⟩ := r.fz j d' hj
      exact ⟨w, e2, rv.mono (fun _ _ h => h) mono⟩
  · obtain ⟨g1, g2, g3⟩ := r.own a ha.1
    refine ⟨?_, g2, g3⟩
    show (if S i a then H a else F a) = none
    rw [if_neg ha.2]; exact g1
  · have ej : i ≠ j := fun e => by
      subst e; rw [List.getElem?_set_self hi] at hj; cases hj
    rw [List.getElem?_set_ne ej] at hj
    obtain ⟨w, e2, q⟩ := h1 j m' d' hj
    exact ⟨w, e2, q.mono (fun _ _ h => h) mono fun a ha => ⟨⟨fun e => ej e.symm, ha⟩, fun _ h => h⟩⟩
  · exact ⟨h2 j a ha.2, fun z => ha.1 (h3 j i a ha.2 z)⟩
/-- a slot gives up its thing -/
theorem SRO.take {i : Nat} {m : Md} {d : VL.D} (r : SRO K ι F O ρ M σ H) (h : ρ[i]? = some (.ow m d)) :
    ∃ v T, σ[i]? = some (some v) ∧ DRep K ι F H m v d T ∧ (∀ a, T a → O a) ∧ Sep ι F (fun b => O b ∧ ¬ T b) H T ∧ SRO K ι F (fun b => O b ∧ ¬ T b) (ρ.set i .un) M σ H := by
  obtain ⟨S, h1, h2, h3⟩ := r.ow
  obtain ⟨v, e1, dr⟩ := h1 i m d h
  refine ⟨v, S i, e1, dr, h2 i, ⟨fun a ha => ⟨fun z => z.2 ha, r.own a (h2 i a ha)⟩⟩, ⟨r.sub, r.mem, by simp [r.len], fun j d' hj => ?_, fun a ha => r.own a ha.1, fun j a => j ≠ i ∧ S j a, fun j m' d' hj => ?_, fun j a ha => ⟨h2 j a ha.2, fun z => ha.1 (h3 j i a ha.2 z)⟩, fun j k a z1 z2 => h3 j k a z1.2 z2.2⟩⟩
  · have ej : i ≠ j := fun e => by
      subst e; rw [List.getElem?_set, if_pos rfl] at hj
      split at hj <;> cases hj
    rw [List.getElem?_set_ne ej] at hj; exact r.fz j d' hj
  · have ej : i ≠ j := fun e => by
      subst e; rw [List.getElem?_set, if_pos rfl] at hj
      split at hj <;> cases hj
    rw [List.getElem?_set_ne ej] at hj
    obtain ⟨w, e2, q⟩ := h1 j m' d' hj
    exact ⟨w, e2, q.mono (fun _ _ h => h) (fun _ _ h => h) fun a ha => ⟨⟨fun e => ej e.symm, ha⟩, fun _ h => h⟩⟩
/-- a slot gets a thing -/
theorem SRO.put {i : Nat} {r0 : Md × VL.D} {v : V} {T : Addr → Prop} (r : SRO K ι F O ρ M σ H) (hd : DRep K ι F H r0.1 v r0.2 T) (hT : Sep ι F O H T) : SRO K ι F (fun a => O a ∨ T a) (ρ.set i (slM r0)) M (σ.set i (some v)) H := by
  obtain ⟨S, h1, h2, h3⟩ := r.ow
  refine ⟨r.sub, r.mem, by simp [r.len], fun j d' h => ?_, fun a ha => ha.elim (r.own a) fun ha => (hT.at_ a ha).2, fun j a => (j = i ∧ T a) ∨ (j ≠ i ∧ S j a), fun j m' d' h => ?_, fun j a ha => ha.elim (fun z => .inr z.2) fun z => .inl (h2 j a z.2), fun j k a z1 z2 => ?_⟩
  · rw [List.getElem?_set] at h ⊢
    by_cases e : i = j
    · subst e
      rw [if_pos rfl] at h ⊢
      rw [← r.len]
      split at h
      · rename_i hl
        rw [if_pos hl]
        unfold slM at h
        split at h
        · rename_i hm; cases h; exact ⟨v, rfl, hd.flat hm⟩
        · cases h
      · cases h
    · rw [if_neg e] at h ⊢; exact r.fz j d' h
  · rw [List.getElem?_set] at h ⊢
    by_cases e : i = j
    · subst e
      rw [if_pos rfl] at h ⊢
      rw [← r.len]
      split at h
      · rename_i hl
        rw [if_pos hl]
        unfold slM at h
        split at h
        · cases h
        · cases h
          exact ⟨v, rfl, hd.mono (fun _ _ h => h) (fun _ _ h => h) fun a ha => ⟨.inl ⟨rfl, ha⟩, fun _ h => h⟩⟩
      · cases h
    · rw [if_neg e] at h ⊢
      obtain ⟨w, e2, q⟩ := h1 j m' d' h
      exact ⟨w, e2, q.mono (fun _ _ h => h) (fun _ _ h => h) fun a ha => ⟨.inr ⟨fun z => e z.symm, ha⟩, fun _ h => h⟩⟩
  · rcases z1 with ⟨e1, t1⟩ | ⟨e1, t1⟩ <;> rcases z2 with ⟨e2, t2⟩ | ⟨e2, t2⟩
    · rw [e1, e2]
    · exact absurd (h2 k a t2) (hT.at_ a t1).1
    · exact absurd (h2 j a t1) (hT.at_ a t2).1
    · exact h3 j k a t1 t2
theorem StS.kp (s : StS ι F O H ι' F' O' H') (r : SRO K ι F O ρ M σ H) : Kp F H H' := fun a u n e => s.keep a u e (fun z => n (r.mem.there z).2) fun z => n (r.own a z).1
/-! ### paths -/
/-- from v along ks to w -/
def PathO (ι : List Addr) (H : Hp) : V → List VL.D → V → Prop
  | v, [], w => v = w
  | v, k :: ks, w => ∃ p xs j w1, v = .ref p ∧ H p = some (.lst xs) ∧ p ∉ ι ∧ k = .int j ∧ L2.atI xs j = some w1 ∧ PathO ι H w1 ks w
theorem PathO.step (s : Stp ι F H ι' F' H') : ∀ {ks : List VL.D} {v w : V}, PathO ι H v ks w → PathO ι' H' v ks w
  | [], _, _, h => h
  | k :: ks, v, w, ⟨p, xs, j, w1, e1, e2, e3, e4, e5, h⟩ => ⟨p, xs, j, w1, e1, s.keep p _ e2 e3, s.nin e3 (by rw [e2]; exact fun z => by cases z), e4, e5, PathO.step s h⟩
theorem PathO.uniq : ∀ {ks : List VL.D} {v w w' : V}, PathO ι H v ks w → PathO ι H v ks w' → w = w'
  | [], _, _, _, h, h' => h.symm.trans h'
  | k :: ks, v, w, w', ⟨p, xs, j, w1, e1, e2, e3, e4, e5, h⟩, ⟨p', xs', j', w1', e1', e2', e3', e4', e5', h'⟩ => by
    subst e1; cases e1'
    rw [e2] at e2'; cases e2'
    subst e4; cases e4'
    rw [e5] at e5'; cases e5'
    exact h.uniq h'
theorem PathO.snoc : ∀ {ks : List VL.D} {k : VL.D} {v w : V}, PathO ι H v (ks ++ [k]) w → ∃ w1, PathO ι H v ks w1 ∧ PathO ι H w1 [k] w
  | [], k, v, w, h => ⟨v, rfl, h⟩
  | k0 :: ks, k, v, w, ⟨p, xs, j, w1, e1, e2, e3, e4, e5, h⟩ => by
    obtain ⟨w2, h1, h2⟩ := PathO.snoc h
    exact ⟨w2, ⟨p, xs, j, w1, e1, e2, e3, e4, e5, h1⟩, h2⟩
theorem dnP_z : ∀ ks, dnP .z ks = .z
  | [] => rfl
  | _ :: ks => dnP_z ks
theorem DReps.focus {m : Md} : ∀ {vs : List V} {ds : List VL.D} {S : Addr → Prop} {n : Nat} {d : VL.D}, DReps K ι F H m vs ds S → ds[n]? = some d → ∃ v A, vs[n]? = some v ∧ DRep K ι F H m v d A ∧ (∀ a, A a → S a) ∧
      ∀ H' v' d' A' (U : Addr → Prop), (∀ b u, S b → ¬ A b → H b = some u → H' b = some u) → DRep K ι F H' m v' d' A' → (∀ b, A' b → A b ∨ U b) → (∀ b, U b → ¬ S b) → DReps K ι F H' m (vs.set n v') (ds.set n d') fun b => S b ∨ U b
  | _, _, _, n, _, .nil, h => by simp at h
  | _, _, _, 0, _, .cons (A := A) (B := B) r q a b c, h => by
    simp only [List.getElem?_cons_zero, Option.some.injEq] at h
    subst h
    refine ⟨_, A, rfl, r, a, fun H' v' d' A' U h1 h2 h3 h4 => ?_⟩
    refine .cons (A := A') (B := B) h2 (q.mono (fun _ _ h => h) (fun _ _ h => h) fun x hx => ⟨hx, fun u e => h1 x u (b x hx) (fun z => c x z hx) e⟩) (fun x hx => (h3 x hx).imp (a x) id) (fun x hx => .inl (b x hx)) fun x hx hb => ?_
    rcases h3 x hx with z | z
    · exact c x z hb
    · exact h4 x z (b x hb)
  | _, _, _, n + 1, _, .cons (A := A0) (B := B) r q a b c, h => by
    simp only [List.getElem?_cons_succ] at h
    obtain ⟨v, A, e, dr, k, go⟩ := DReps.focus q h
    refine ⟨v, A, by simpa using e, dr, fun x hx => b x (k x hx), fun H' v' d' A' U h1 h2 h3 h4 => ?_⟩
    have := go H' v' d' A' U (fun x u hx hn e => h1 x u (b x hx) hn e) h2 h3 fun x hx hb => h4 x hx (b x hb)
    refine .cons (A := A0) (B := fun x => B x ∨ U x) (r.mono (fun _ _ h => h) (fun _ _ h => h) fun x hx => ⟨hx, fun u e => h1 x u (a x hx) (fun z => c x hx (k x z)) e⟩) this (fun x hx => .inl (a x hx)) (fun x hx => hx.imp (b x) id) fun x hx => ?_
    rintro (z | z)
    · exact c x hx z
    · exact h4 x z (a x hx)
theorem set_same {α : Type} {xs : List α} {n : Nat} {x : α} (h : xs[n]? = some x) : xs.set n x = xs := by
  apply List.ext_getElem?
  intro j
  rw [List.getElem?_set]
  split
  · rename_i e; subst e
    rw [if_pos (List.getElem?_eq_some_iff.mp h).1, h]
  · rfl
/-- what a change at a does -/
def Chg (H : Hp) (a : Addr) (H' : Hp) : Prop := ∀ b, b ≠ a → H' b = H b
theorem path_ok : ∀ {ks : List VL.D} {m : Md} {v : V} {d : VL.D} {S : Addr → Prop} {ds : List VL.D}, DRep K ι F H m v d S → (∀ a, S a → a ∉ ι) → getP d ks = some (.lst ds) → dnP m ks ≠ .z →
    ∃ a vs T0, PathO ι H v ks (.ref a) ∧ H a = some (.lst vs) ∧ DReps K ι F H (dnP m ks).dn vs ds T0 ∧ S a ∧ ¬ T0 a ∧ (∀ b, T0 b → S b) ∧
      ∀ H' m' vs' ds' (T1 U : Addr → Prop), Chg H a H' → H' a = some (.lst vs') → m' ≠ .z → (ks ≠ [] → m' = dnP m ks) → DReps K ι F H' m'.dn vs' ds' T1 → ¬ T1 a → (∀ b, T1 b → T0 b ∨ U b) → (∀ b, U b → ¬ S b) → DRep K ι F H' (if ks.isEmpty = true then m' else m) v (setP d ks (.lst ds')) fun b => S b ∨ U b
  | [], m, v, d, S, ds, h, hS, hg, hm => by
    simp only [getP, Option.some.injEq] at hg
    subst hg
    cases h with
    | fz r e => rcases e with e | e; exact absurd e hm; cases e
    | lst k1 k2 k3 k4 k5 k6 =>
      refine ⟨_, _, _, rfl, k2, k6, k3, k4, k5, fun H' m' vs' ds' T1 U hc h1 h2 h3 h4 h5 h6 h7 => ?_⟩
      exact .lst (T := T1) h2 h1 (.inl k3) h5 (fun b hb => (h6 b hb).imp (k5 b) id) h4
  | k :: ks, m, v, d, S, ds, h, hS, hg, hm => by
    cases d <;> try (simp [getP] at hg; done)
    rename_i ds0
    cases k <;> try (simp [getP] at hg; done)
    rename_i j
    simp only [getP] at hg
    split at hg
    · rename_i n en
      split at hg
      · rename_i d1 ed
        have hmz : m ≠ .z := fun e => hm (by rw [e]; exact dnP_z _)
        cases h with
        | fz r e => rcases e with e | e; exact absurd e hmz; cases e
        | lst k1 k2 k3 k4 k5 k6 =>
          rename_i a0 vs0 T'
          obtain ⟨v1, A, e1, dr, hA, go⟩ := k6.focus ed
          obtain ⟨a, vs, T0, q1, q2, q3, q4, q5, q6, q7⟩ := path_ok dr (fun a ha => hS a (k5 a (hA a ha))) hg hm
          have hat : L2.atI vs0 j = some v1 := by
            unfold L2.atI
            rw [k6.length, en]; exact e1
          have nea : a0 ≠ a := fun e => k4 (hA _ (by rw [e]; exact q4))
          refine ⟨a, vs, T0, ⟨_, _, _, v1, rfl, k2, hS _ k3, rfl, hat, q1⟩, q2, q3, k5 _ (hA _ q4), q5, fun b hb => k5 b (hA b (q6 b hb)), fun H' m' vs' ds' T1 U hc h1 h2 h3 h4 h5 h6 h7 => ?_⟩
          have sub := q7 H' m' vs' ds' T1 U hc h1 h2 (fun _ => h3 (by simp)) h4 h5 h6 fun b hb hA' => h7 b hb (k5 b (hA b hA'))
          have em : (if ks.isEmpty = true then m' else m.dn) = m.dn := by
            cases ks with
            | nil => exact h3 (by simp)
            | cons _ _ => rfl
          rw [em] at sub
          have all := go H' v1 (setP d1 ks (.lst ds')) (fun b => A b ∨ U b) U (fun b u hb hn e => by
            rw [hc b (fun e => hn (by rw [e]; exact q4))]; exact e) sub (fun b hb => hb) fun b hb hT => h7 b hb (k5 b hT)
          rw [set_same e1] at all
          have es : setP (.lst ds0) (.int j :: ks) (.lst ds') = .lst (ds0.set n (setP d1 ks (.lst ds'))) := by
            simp only [setP, en, ed]
          rw [es]
          show DRep K ι F H' m (.ref a0) _ _
          exact .lst (T := fun b => T' b ∨ U b) hmz (by rw [hc a0 nea]; exact k2) (.inl k3) (fun z => z.elim k4 fun z => h7 a0 z k3) (fun b hb => hb.imp (k5 b) id) all
      · cases hg
    · cases hg
/-- parts -/
theorem DReps.weak {m : Md} {vs : List V} {ds : List VL.D} {S T : Addr → Prop} (r : DReps K ι F H m vs ds S) (h : ∀ a, S a → T a) : DReps K ι F H m vs ds T := r.mono (fun _ _ h => h) (fun _ _ h => h) fun a ha => ⟨h a ha, fun _ h => h⟩
theorem DReps.append {m : Md} : ∀ {vs ws : List V} {ds es : List VL.D} {S T U : Addr → Prop}, DReps K ι F H m vs ds S → DReps K ι F H m ws es T → (∀ a, S a → U a) → (∀ a, T a → U a) → (∀ a, S a → ¬ T a) → DReps K ι F H m (vs ++ ws) (ds ++ es) U
  | _, _, _, _, _, _, _, .nil, q, _, h2, _ => q.weak h2
  | _, _, _, _, _, T, U, .cons (A := A) (B := B) h r a b c, q, h1, h2, h3 => by
    refine .cons (B := fun x => B x ∨ T x) h (r.append q (fun _ h => .inl h) (fun _ h => .inr h) fun x hx => h3 x (b x hx)) (fun x hx => h1 x (a x hx)) (fun x hx => hx.elim (fun hx => h1 x (b x hx)) (h2 x)) fun x hx => ?_
    rintro (z | z)
    · exact c x hx z
    · exact h3 x (a x hx) z
theorem DReps.one {m : Md} {v : V} {d : VL.D} {S : Addr → Prop} (h : DRep K ι F H m v d S) : DReps K ι F H m [v] [d] S := .cons (B := fun _ => False) h .nil (fun _ h => h) (fun _ h => h.elim) fun _ _ h => h
theorem DReps.split {m : Md} : ∀ {vs : List V} {ds : List VL.D} {S : Addr → Prop} (n : Nat), DReps K ι F H m vs ds S → ∃ A B, DReps K ι F H m (vs.take n) (ds.take n) A ∧ DReps K ι F H m (vs.drop n) (ds.drop n) B ∧ (∀ a, A a → S a) ∧ (∀ a, B a → S a) ∧ ∀ a, A a → ¬ B a
  | _, _, S, 0, r => ⟨fun _ => False, S, by simpa using DReps.nil, by simpa using r, fun _ h => h.elim, fun _ h => h, fun _ h => h.elim⟩
  | _, _, S, _ + 1, .nil => ⟨fun _ => False, fun _ => False, by simpa using DReps.nil, by simpa using DReps.nil, fun _ h => h.elim, fun _ h => h.elim, fun _ h => h.elim⟩
  | _, _, S, n + 1, .cons (A := A0) (B := B0) h r a b c => by
    obtain ⟨A, B, q1, q2, q3, q4, q5⟩ := r.split n
    refine ⟨fun x => A0 x ∨ A x, B, ?_, by simpa using q2, fun x hx => hx.elim (a x) fun hx => b x (q3 x hx), fun x hx => b x (q4 x hx), fun x hx hb => hx.elim (fun hx => c x hx (q4 x hb)) fun hx => q5 x hx hb⟩
    simp only [List.take_succ_cons]
    exact .cons h q1 (fun _ h => .inl h) (fun _ h => .inr h) fun x hx hA => c x hx (q3 x hA)
theorem DReps.reverse {m : Md} : ∀ {vs : List V} {ds : List VL.D} {S : Addr → Prop}, DReps K ι F H m vs ds S → DReps K ι F H m vs.reverse ds.reverse S
  | _, _, _, .nil => .nil
  | _, _, S, .cons (A := A) (B := B) h r a b c => by
    simp only [List.reverse_cons]
    exact (r.reverse).append (.one h) b a fun x h1 h2 => c x h2 h1
theorem DReps.erase {m : Md} : ∀ {vs : List V} {ds : List VL.D} {S : Addr → Prop} (n : Nat), DReps K ι F H m vs ds S → DReps K ι F H m (vs.eraseIdx n) (ds.eraseIdx n) S
  | _, _, _, _, .nil => by simpa using DReps.nil
  | _, _, S, 0, .cons h r a b c => by simpa using r.weak b
  | _, _, S, n + 1, .cons h r a b c => by
    simp only [List.eraseIdx_cons_succ]
    exact .cons h (r.erase n) a b c
/-- a part that is put in -/
theorem put_parts {m m' : Md} {top : Bool} {vs : List V} {ds : List VL.D} {S : Addr → Prop} {r : Md × VL.D} (h : DReps K ι F H m.dn vs ds S) (e : putM m top ds r = some m') :
    DReps K ι F H m'.dn vs ds S ∧ (∀ v T, DRep K ι F H r.1 v r.2 T → DRep K ι F H m'.dn v r.2 T) ∧ (m ≠ .z → m' ≠ .z) ∧ (top = false → m' = m) := by
  unfold putM at e
  split at e
  · rename_i hc
    cases e
    refine ⟨h, fun v T hd => ?_, id, fun _ => rfl⟩
    rcases hc with hc | hc
    · exact .fz (hd.flat (.inr hc)) (.inr hc)
    · rw [← hc]; exact hd
  · split at e
    · rename_i hc
      cases e
      have hf : ∀ x ∈ ds, x.isLD = false := fun x hx => by
        have := List.all_eq_true.mp hc.2 x hx
        simpa using this
      refine ⟨DReps.of (h.flat (.inr hf)) (.inr hf), fun v T hd => by rw [Md.dn_up]; exact hd, fun _ => Md.up_ne _, fun z => by rw [hc.1] at z; cases z⟩
    · cases e
/-- a slot's thing on a path -/
theorem SRO.path {i : Nat} {m : Md} {d : VL.D} {ks : List VL.D} (r : SRO K ι F O ρ M σ H) (h : ρ[i]? = some (.ow m d)) (hb : pathB m d ks = true) :
    ∃ v a vs ds, σ[i]? = some (some v) ∧ PathO ι H v ks (.ref a) ∧ H a = some (.lst vs) ∧ getP d ks = some (.lst ds) ∧ dnP m ks ≠ .z := by
  unfold pathB at hb
  simp only [Bool.and_eq_true, Bool.not_eq_true', decide_eq_false_iff_not] at hb
  obtain ⟨hb, hm⟩ := hb
  split at hb
  · rename_i ds hg
    obtain ⟨S, h1, h2, h3⟩ := r.ow
    obtain ⟨v, e, dr⟩ := h1 i m d h
    obtain ⟨a, vs, T0, q1, q2, _⟩ := path_ok dr (fun b hb => (r.own b (h2 i b hb)).2.1) hg hm
    exact ⟨v, a, vs, ds, e, q1, q2, hg, hm⟩
  · cases hb
/-- what stands there -/
theorem SRO.there {i : Nat} {m : Md} {d : VL.D} {ks : List VL.D} {ds : List VL.D} {v : V} {a : Addr} (r : SRO K ι F O ρ M σ H) (h : ρ[i]? = some (.ow m d)) (hg : getP d ks = some (.lst ds)) (hm : dnP m ks ≠ .z) (hv : σ[i]? = some (some v)) (hp : PathO ι H v ks (.ref a)) :
    ∃ vs T0, H a = some (.lst vs) ∧ DReps K ι F H (dnP m ks).dn vs ds T0 ∧ ∀ b, T0 b → O b := by
  obtain ⟨S, h1, h2, h3⟩ := r.ow
  obtain ⟨v0, e, dr⟩ := h1 i m d h
  rw [hv] at e; cases e
  obtain ⟨a', vs, T0, q1, q2, q3, q4, q5, q6, _⟩ := path_ok dr (fun b hb => (r.own b (h2 i b hb)).2.1) hg hm
  have := q1.uniq hp; cases this
  exact ⟨vs, T0, q2, q3, fun b hb => h2 i b (q6 b hb)⟩
/-- a change of a slot's thing -/
theorem SRO.change {i : Nat} {m m' : Md} {d : VL.D} {ks : List VL.D} {ds ds' : List VL.D} {vs' : List V} {U : Addr → Prop} {a : Addr} {v : V} (r : SRO K ι F O ρ M σ H) (h : ρ[i]? = some (.ow m d)) (hg : getP d ks = some (.lst ds)) (hm : dnP m ks ≠ .z)
    (hv : σ[i]? = some (some v)) (hp : PathO ι H v ks (.ref a)) (hU : Sep ι F O H U) (hm' : m' ≠ .z) (hk : ks ≠ [] → m' = dnP m ks)
    (hn : ∀ vs T0, H a = some (.lst vs) → DReps K ι F H (dnP m ks).dn vs ds T0 → (∀ b, T0 b → O b) → ∃ T1 : Addr → Prop, DReps K ι F H m'.dn vs' ds' T1 ∧ ∀ b, T1 b → T0 b ∨ U b) :
    StS ι F (fun b => O b ∨ U b) H ι F (fun b => O b ∨ U b) (upd H a (.lst vs')) ∧ SRO K ι F (fun b => O b ∨ U b) (ρ.set i (.ow (if ks.isEmpty = true then m' else m) (setP d ks (.lst ds')))) M σ (upd H a (.lst vs')) := by
  obtain ⟨S, h1, h2, h3⟩ := r.ow
  obtain ⟨v0, e0, dr⟩ := h1 i m d h
  rw [hv] at e0; cases e0
  have hS : ∀ b, S i b → b ∉ ι := fun b hb => (r.own b (h2 i b hb)).2.1
  obtain ⟨a', vs, T0, q1, q2, q3, q4, q5, q6, q7⟩ := path_ok dr hS hg hm
  have ea : a' = a := by have := q1.uniq hp; cases this; rfl
  subst ea
  obtain ⟨T1, n1, n2⟩ := hn vs T0 q2 q3 fun b hb => h2 i b (q6 b hb)
  obtain ⟨hF, hi, hl⟩ := r.own a' (h2 i a' q4)
  have hil : i < ρ.length := (List.getElem?_eq_some_iff.mp h).1
  have nT1 : ¬ T1 a' := fun z => (n2 a' z).elim q5 fun z => (hU.at_ a' z).1 (h2 i a' q4)
  have chg : Chg H a' (upd H a' (.lst vs')) := fun b hb => upd_ne hb
  have n1' : DReps K ι F (upd H a' (.lst vs')) m'.dn vs' ds' T1 := n1.mono (fun _ _ h => h) (fun _ _ h => h) fun b hb => ⟨hb, fun u e => by rw [upd_ne (fun e => nT1 (by rw [← e]; exact hb))]; exact e⟩
  have new := q7 (upd H a' (.lst vs')) m' vs' ds' T1 U chg upd_same hm' hk n1' nT1 n2 fun b hb hs => (hU.at_ b hb).1 (h2 i b hs)
  obtain ⟨f2, m2⟩ := out_upd (o := .lst vs') r.sub r.mem hF hi
  have live : ∀ b, H b ≠ none → upd H a' (.lst vs') b ≠ none := fun b hb => by
    by_cases e : b = a'
    · subst e; rw [upd_same]; exact fun z => by cases z
    · rw [upd_ne e]; exact hb
  refine ⟨⟨⟨[], by simp, by simp⟩, fun _ _ h => h, fun _ _ _ _ h => h, fun b hb => ?_, fun b u hb _ no => ?_, live⟩, ⟨f2, m2, by simp [r.len], fun j d' hj => ?_, fun b hb => ?_, fun j b => (j = i ∧ (S i b ∨ U b)) ∨ (j ≠ i ∧ S j b), fun j mj dj hj => ?_, fun j b hb => ?_, fun j k b z1 z2 => ?_⟩⟩
  · exact .inr hb
  · rw [upd_ne (fun e => no (by rw [e]; exact .inl (h2 i a' q4)))]; exact hb
  · have ne : i ≠ j := fun e => by
      subst e; rw [List.getElem?_set_self hil] at hj; cases hj
    rw [List.getElem?_set_ne ne] at hj; exact r.fz j d' hj
  · rcases hb with hb | hb
    · obtain ⟨g1, g2, g3⟩ := r.own b hb
      exact ⟨g1, g2, g3.any .us⟩
    · obtain ⟨_, g1, g2, g3⟩ := hU.at_ b hb
      exact ⟨g1, g2, g3.any .us⟩
  · by_cases e : i = j
    · subst e
      rw [List.getElem?_set_self hil] at hj
      cases hj
      exact ⟨v, hv, new.mono (fun _ _ h => h) (fun _ _ h => h) fun b hb => ⟨.inl ⟨rfl, hb⟩, fun _ h => h⟩⟩
    · rw [List.getElem?_set_ne e] at hj
      obtain ⟨w, e2, q⟩ := h1 j mj dj hj
      exact ⟨w, e2, q.mono (fun _ _ h => h) (fun _ _ h => h) fun b hb => ⟨.inr ⟨fun z => e z.symm, hb⟩, fun u hu => by
        rw [upd_ne (fun z => e (h3 i j a' q4 (by rw [← z]; exact hb)))]; exact hu⟩⟩
  · rcases hb with ⟨rfl, hb⟩ | ⟨_, hb⟩
    · exact hb.imp (h2 j b) id
    · exact .inl (h2 j b hb)
  · rcases z1 with ⟨e1, t1⟩ | ⟨e1, t1⟩ <;> rcases z2 with ⟨e2, t2⟩ | ⟨e2, t2⟩
    · rw [e1, e2]
    · rcases t1 with t1 | t1
      · exact e1.trans (h3 i k b t1 t2)
      · exact absurd (h2 k b t2) (hU.at_ b t1).1
    · rcases t2 with t2 | t2
      · exact (h3 j i b t1 t2).trans e2.symm
      · exact absurd (h2 j b t1) (hU.at_ b t2).1
    · exact h3 j k b t1 t2
/-! ### a dict of one's own, its values settled -/
theorem DRepk.flatZ : ∀ {l : List (VL.D × V)} {kds : List (VL.D × VL.D)} {S : Addr → Prop}, DRepk K ι F H .z l kds S → RepK K ι F l kds
  | _, _, _, .nil => .nil
  | _, _, _, .cons h r _ _ _ => .cons (h.flat (.inl rfl)) (DRepk.flatZ r)
theorem SRO.dict {i : Nat} {t : Bool} {kvs : List (VL.D × VL.D)} (r : SRO K ι F O ρ M σ H) (h : ρ[i]? = some (.ow (.s .z) (.dic t kvs))) : ∃ a l, σ[i]? = some (some (.ref a)) ∧ DicAt H a t l ∧ RepK K ι F l kvs ∧ O a := by
  obtain ⟨S, h1, h2, h3⟩ := r.ow
  obtain ⟨v, e, dr⟩ := h1 i _ _ h
  cases dr with
  | fz q eq => rcases eq with eq | eq <;> cases eq
  | dic n e1 s t ts q => exact ⟨_, _, e, e1, DRepk.flatZ q, h2 i _ s⟩
theorem SRO.dchange {i : Nat} {t : Bool} {a : Addr} {o : HO} {kvs kvs' : List (VL.D × VL.D)} {l' : List (VL.D × V)} (r : SRO K ι F O ρ M σ H) (h : ρ[i]? = some (.ow (.s .z) (.dic t kvs))) (hv : σ[i]? = some (some (.ref a))) (hd : DicAt (upd H a o) a t l') (hr : RepK K ι F l' kvs') :
    StS ι F O H ι F O (upd H a o) ∧ SRO K ι F O (ρ.set i (.ow (.s .z) (.dic t kvs'))) M σ (upd H a o) := by
  obtain ⟨S, h1, h2, h3⟩ := r.ow
  obtain ⟨v0, e0, dr⟩ := h1 i _ _ h
  rw [hv] at e0; cases e0
  have hil : i < ρ.length := (List.getElem?_eq_some_iff.mp h).1
  have sa : S i a := by
    cases dr with
    | fz q eq => rcases eq with eq | eq <;> cases eq
    | dic n e1 s t ts q => exact s
  obtain ⟨hF, hi, hl⟩ := r.own a (h2 i a sa)
  obtain ⟨f2, m2⟩ := out_upd (o := o) r.sub r.mem hF hi
  have live : ∀ b, H b ≠ none → upd H a o b ≠ none := fun b hb => by
    by_cases e : b = a
    · subst e; rw [upd_same]; exact fun z => by cases z
    · rw [upd_ne e]; exact hb
  refine ⟨⟨⟨[], by simp, by simp⟩, fun _ _ h => h, fun _ _ _ _ h => h, fun b hb => .inr hb, fun b u hb _ no => ?_, live⟩, ⟨f2, m2, by simp [r.len], fun j d' hj => ?_, fun b hb => ?_, S, fun j mj dj hj => ?_, h2, h3⟩⟩
  · rw [upd_ne (fun e => no (by rw [e]; exact h2 i a sa))]; exact hb
  · have ne : i ≠ j := fun e => by
      subst e; rw [List.getElem?_set_self hil] at hj; cases hj
    rw [List.getElem?_set_ne ne] at hj; exact r.fz j d' hj
  · obtain ⟨g1, g2, g3⟩ := r.own b hb
    exact ⟨g1, g2, g3.any hd.ld⟩
  · by_cases e : i = j
    · subst e
      rw [List.getElem?_set_self hil] at hj
      cases hj
      exact ⟨_, hv, .dic (T := fun _ => False) (fun z => by cases z) hd sa id (fun _ h => h.elim) (DRepk.of_ hr)⟩
    · rw [List.getElem?_set_ne e] at hj
      obtain ⟨w, e2, q⟩ := h1 j mj dj hj
      exact ⟨w, e2, q.mono (fun _ _ h => h) (fun _ _ h => h) fun b hb => ⟨hb, fun u hu => by
        rw [upd_ne (fun z => e (h3 i j a sa (by rw [← z]; exact hb)))]; exact hu⟩⟩
end
end VL
/-! V9: statements are served by the evaluator -/
namespace VL
open PySem PySem.Spec PyProof.Rows L2

/-! ### matching -/
def ghostB : Sm → Bool
  | .freeze _ => true
  | .kill _ => true
  | _ => false
def compB : Expr → Bool
  | .ListComp _ _ _ _ | .SetComp _ _ _ _ | .DictComp _ _ _ _ _ => true
  | _ => false
def tupB : Expr → Bool
  | .Tuple _ _ _ => true
  | _ => false
/-- a path, its last part first -/
def mPth (N : List Str) (nm : Nms) (sc : Scope) (i : Nat) : List Ex → Expr → Bool
  | [], e => mE N nm (.var i) sc e
  | p :: r, e => match e with
    | .Subscript o ek _ => pixB ek && mPth N nm sc i r o && mE N nm p sc ek
    | _ => false
def mEl (N : List Str) (nm : Nms) (sc : Scope) : El → Expr → Bool
  | .a a, e => mA N nm a sc e
  | .mv j, e => mE N nm (.var j) sc e
def mMu (N : List Str) (nm : Nms) (sc : Scope) (mu : Mu) (el : El) (m : Str) (es : List Expr) : Bool :=
  match mu, es with
  | .app, [ea] => decide (m = ("append" : Str)) && nst ea && mEl N nm sc el ea
  | .clear, [] => decide (m = ("clear" : Str)) && (match el with | .a (.e (.lit .non)) => true | _ => false)
  | .rev, [] => decide (m = ("reverse" : Str)) && (match el with | .a (.e (.lit .non)) => true | _ => false)
  | _, _ => false
def callE : Expr → Bool
  | .Call _ (_ :: _) _ _ => true
  | _ => false
theorem callE_base {o : Expr} {m : Str} {env : Env} (h : callE o = true) : attributeBase o m env (eval o env) = eval o env := by
  cases o with
  | Call fn es kws pos =>
    cases es with
    | nil => cases h
    | cons a as => cases fn <;> rfl
  | _ => cases h
def mPop (N : List Str) (nm : Nms) (sc : Scope) (k : Option Ex) (es : List Expr) : Bool :=
  match k, es with
  | none, [] => true
  | some x, [ea] => nst ea && mE N nm x sc ea
  | _, _ => false
mutual
def mS (N : List Str) (nm : Nms) (sc : Scope) : Sm → Stmt → Bool
  | .asg p e, s => match s with
    | .Assign ts ev _ => (match ts with
      | [tg] => mP N sc p tg && mE N nm e sc ev && (match tg with
        | .Name _ _ => true
        | _ => !tupB ev && !compB ev)
      | _ => false)
    | _ => false
  | .own i e, s => match s with
    | .Assign ts ev _ => (match ts with
      | [tg] => mP N sc (.v i) tg && mA N nm e sc ev
      | _ => false)
    | _ => false
  | .dset i k v, s => match s with
    | .Assign ts ev _ => (match ts with
      | [tg] => (match tg with
        | .Subscript o ek _ => nameE o && mE N nm (.var i) sc o && true && mE N nm k sc ek && mE N nm v sc ev
        | _ => false)
      | _ => false)
    | _ => false
  | .mut i ps mu el, s => match mu with
    | .setk k => (match s with
      | .Assign ts ev _ => (match ts with
        | [tg] => (match tg with
          | .Subscript o ek _ => mPth N nm sc i ps.reverse o && mE N nm k sc ek && mEl N nm sc el ev && pixB ek
          | _ => false)
        | _ => false)
      | _ => false)
    | mu => (match s with
      | .Expr c _ => (match c with
        | .Call fn es kws cp => (match fn with
          | .Attribute o m ap => kws.isEmpty && (ap.endLine == cp.line) && mPth N nm sc i ps.reverse o && mMu N nm sc mu el m es
          | _ => false)
        | _ => false)
      | _ => false)
  | .pop p i ps k, s => match s with
    | .Assign ts ev _ => (match ts with
      | [tg] => (match ev with
        | .Call fn es kws cp => (match fn with
          | .Attribute o m ap => mP N sc p tg && (match tg with | .Name _ _ => true | .Tuple _ _ _ => true | _ => false) && kws.isEmpty && (ap.endLine == cp.line) && decide (m = ("pop" : Str)) && mPth N nm sc i ps.reverse o && mPop N nm sc k es
          | _ => false)
        | _ => false)
      | _ => false)
    | _ => false
  | .forK p i body, s => match s with
    | .For tg iter sb oe _ => oe.isEmpty && mP N sc p tg && mSs N nm sc body sb && mVar N sc i iter
    | _ => false
  | .popS i ps k, s => match s with
    | .Expr ev _ => (match ev with
      | .Call fn es kws cp => (match fn with
        | .Attribute o m ap => kws.isEmpty && (ap.endLine == cp.line) && decide (m = ("pop" : Str)) && mPth N nm sc i ps.reverse o && mPop N nm sc k es
        | _ => false)
      | _ => false)
    | _ => false
  | .clr a, s => match s with
    | .Expr ev _ => (match ev with
      | .Call fn es kws cp => (match fn with
        | .Attribute o m ap => kws.isEmpty && es.isEmpty && (ap.endLine == cp.line) && decide (m = ("clear" : Str)) && callE o && mA N nm a sc o
        | _ => false)
      | _ => false)
    | _ => false
  | .aug i o e, s => match s with
    | .AugAssign tg op ev _ => mP N sc (.v i) tg && mOp o op && mE N nm e sc ev
    | _ => false
  | .expr e, s => match s with
    | .Expr ev _ => mE N nm e sc ev && !compB ev
    | _ => false
  | .ret e, s => match s with
    | .Return o _ => (match o with
      | some ev => mE N nm e sc ev
      | none => false)
    | _ => false
  | .retN, s => match s with
    | .Return o _ => o.isNone
    | _ => false
  | .retA a, s => match s with
    | .Return o _ => (match o with
      | some ev => mA N nm a sc ev
      | none => false)
    | _ => false
  | .retV i, s => match s with
    | .Return o _ => (match o with
      | some ev => mE N nm (.var i) sc ev
      | none => false)
    | _ => false
  | .ifs q a b, s => match s with
    | .If ec sa sb _ => tstB q && mE N nm q sc ec && mSs N nm sc a sa && mSs N nm sc b sb
    | _ => false
  | .for_ p k args body, s => match s with
    | .For tg iter sb oe _ => oe.isEmpty && mP N sc p tg && mSs N nm sc body sb &&
        (match k with
            | .seq => (match args with | [a] => mE N nm a sc iter && (match iter with | .Set _ _ _ => false | _ => true) | _ => false)
            | _ => (match iter with
              | .Call fn es kws _ => (match fn with
                | .Name x _ => glB sc x && kws.isEmpty && mEs N nm args sc es && itB k x es.length tg
                | _ => false)
              | _ => false))
    | _ => false
  | .while_ q body, s => match s with
    | .While ec sb oe _ => oe.isEmpty && tstB q && mE N nm q sc ec && mSs N nm sc body sb
    | _ => false
  | .brk, s => match s with
    | .Break _ => true
    | _ => false
  | .cnt, s => match s with
    | .Continue _ => true
    | _ => false
  | .pass, s => match s with
    | .Pass _ => true
    | _ => false
  | .raise c, s => match s with
    | .Raise o cause _ => cause.isNone && (match o with
      | some ev => (match ev with
        | .Call fn es kws _ => (match fn, es with
          | .Name x _, [.Constant (.str _) _ _] => decide (nm.excs[c]? = some x) && glB sc x && kws.isEmpty
          | _, _ => false)
        | _ => false)
      | none => false)
    | _ => false
  | .freeze _, _ => false
  | .kill _, _ => false
  | .try_ body hs, s => match s with
    | .Try sb hds oe fe _ => oe.isEmpty && fe.isEmpty && !hds.isEmpty && mSs N nm sc body sb && mHd N nm sc hs hds
    | _ => false
def mSs (N : List Str) (nm : Nms) (sc : Scope) : List Sm → List Stmt → Bool
  | [], l => l.isEmpty
  | s :: r, l => if ghostB s = true then mSs N nm sc r l else match l with
    | st :: l' => mS N nm sc s st && mSs N nm sc r l'
    | [] => false
end
/-! ### around a statement -/
structure XS (P : Prog) (nm : Nms) (cl : Nat → Value) (n : Nat) (X : Cx) (sc : Scope) (W : WXX) : Prop where
  w : XW P nm cl n X sc W
  own : PassesOwn (model X.prog X.w) X.A X.env X.xe
  stk : X.stack = X.env :: X.outer
  frm : X.env.frame = some X.env.locals
section
variable {P : Prog} {nm : Nms} {cl : Nat → Value} {n : Nat} {X : Cx} {sc : Scope} {W : WXX} {c : Cfg}
theorem PS.cong {st : Stmt} {ra rb : Sl → Mem → RS} (h : PS X st (tS X.K cl W ra)) (q : ∀ ρ M, rb ρ M = ra ρ M) : PS X st (tS X.K cl W rb) := by
  have : rb = ra := by funext ρ M; exact q ρ M
  rw [this]; exact h
theorem PSs.cong {st : List Stmt} {ra rb : Sl → Mem → RS} (h : PSs X st (tS X.K cl W ra)) (q : ∀ ρ M, rb ρ M = ra ρ M) : PSs X st (tS X.K cl W rb) := by
  have : rb = ra := by funext ρ M; exact q ρ M
  rw [this]; exact h
/-- e; a test; of which a statement is made -/
theorem s_do {ra : Sl → Mem → VL.R D} {f : D → Sl → Mem → RS} {D0 : Ends} {σ : L2.St} {H : Hp} {t : VK} (z : tS X.K cl W (fun ρ M => (ra ρ M).to ρ fun d M1 => f d ρ M1) D0 σ H)
    (q : ∀ ι F O ρ M d H1, SRO X.K ι F O ρ M σ H1 → ResS X.K cl W ι F O σ H1 (f d ρ M) D0 → ∀ v, Rep X.K ι F v d → t v H1) : tE X.K cl W ra σ H t := by
  obtain ⟨ι, F, O, ρ, M, r, z⟩ := z
  exact ⟨ι, F, ρ, M, ⟨O, r⟩, (ResS.to r z).imp fun d M1 ι1 F1 H1 s1 f1 m1 h v hv => q ι1 F1 O ρ M1 d H1 (r.step s1 f1 m1) h v hv⟩
theorem s_ret {e : Expr} {pos : Pos} {ra : Sl → Mem → VL.R D} (h : PE X e (tE X.K cl W ra)) : PS X (.Return (some e) pos) (tS X.K cl W fun ρ M => (ra ρ M).to ρ fun d M1 => .rt (Md.z, d) M1) := by
  refine PS.weak (ps_ret h) fun D σ H z => s_do (f := fun d ρ M1 => .rt (Md.z, d) M1) z fun ι F O ρ M d H1 r q v hv => ?_
  exact q ι F O H1 v (fun _ => False) StS.refl r.sub r.mem (.fz hv (.inl rfl)) fun _ h => h.elim
theorem s_retN {pos : Pos} : PS X (.Return none pos) (tS X.K cl W fun ρ M => .rt (Md.z, .non) M) := by
  refine PS.weak ps_retN fun D σ H z => ?_
  obtain ⟨ι, F, O, ρ, M, r, z⟩ := z
  exact z ι F O H .non (fun _ => False) StS.refl r.sub r.mem (.fz .non (.inl rfl)) fun _ h => h.elim
/-- things that are apart may be owned -/
theorem StS.or {ι ι' : List Addr} {F F' H H' : Hp} {O O' T : Addr → Prop} (s : StS ι F O H ι' F' O' H') (h : ∀ a, T a → H a = none ∨ O a) : StS ι F O H ι' F' (fun a => O' a ∨ T a) H' :=
  ⟨s.pre, s.subF, s.newF, fun a ha => ha.elim (s.newO a) (h a), s.keep, s.live⟩
theorem s_retA {e : Expr} {pos : Pos} {ra : Sl → Mem → VL.R (Md × D)} (h : PE X e (tO X.K cl W ra)) : PS X (.Return (some e) pos) (tS X.K cl W fun ρ M => (ra ρ M).to ρ fun r M1 => .rt r M1) := by
  refine PS.weak (ps_ret h) fun D σ H z => ?_
  obtain ⟨ι, F, O, ρ, M, r, z⟩ := z
  refine ⟨ι, F, ρ, M, ⟨O, r⟩, ?_⟩
  cases e : ra ρ M with
  | st => dsimp only at z; rw [e] at z; exact z
  | ex c M1 => dsimp only at z; rw [e] at z; exact fun ι1 F1 H1 s1 f1 m1 => z _ _ _ _ _ s1.toS (r.step s1 f1 m1)
  | ok d M1 =>
    dsimp only at z
    rw [e] at z
    exact fun ι1 F1 H1 s1 f1 m1 v T hv hT => z ι1 F1 _ H1 v T (s1.toS.or (T := T) fun a ha => .inl (hT.at_ a ha).2.2.1) f1 m1 hv fun a ha => let ⟨h1, h2, h3, h4⟩ := hT.at_ a ha; ⟨.inr ha, h1, h2, h4⟩
theorem s_retV {e : Expr} {pos : Pos} {i : Nat} (h : PE X e (tVar i)) : PS X (.Return (some e) pos) (tS X.K cl W fun ρ M => match ρ[i]? with
    | some (.ow m d) => .rt (m, d) M
    | some (.fz d) => .rt (Md.z, d) M
    | _ => .st) := by
  refine PS.weak (ps_ret h) fun D σ H z => ?_
  obtain ⟨ι, F, O, ρ, M, r, z⟩ := z
  dsimp only at z
  split at z
  · rename_i m d e
    obtain ⟨v, T, e1, dr, hO, hs, _⟩ := r.take e
    exact ⟨v, e1, z ι F O H v T StS.refl r.sub r.mem dr fun a ha => ⟨hO a ha, (hs.at_ a ha).2⟩⟩
  · rename_i d e
    obtain ⟨v, e1, hv⟩ := r.fz i d e
    exact ⟨v, e1, z ι F O H v (fun _ => False) StS.refl r.sub r.mem (.fz hv (.inl rfl)) fun _ h => h.elim⟩
  · exact z.elim
theorem sw_no {e : Expr} {o : Option Expr} {l : Nat} {env : Env} (h : compB e = false) : swapsWith e o l env = pure false := by
  cases e <;> first | rfl | cases h
theorem s_expr {e : Expr} {pos : Pos} {ra : Sl → Mem → VL.R D} (h : PE X e (tE X.K cl W ra)) (hc : compB e = false) : PS X (.Expr e pos) (tS X.K cl W fun ρ M => (ra ρ M).to ρ fun _ M1 => .nx ρ M1) := by
  refine PS.weak (ps_expr h (sw_no hc)) fun D σ H z => s_do (f := fun d ρ M1 => .nx ρ M1) z fun ι F O ρ M d H1 r q v hv => ?_
  exact q ι F O H1 σ StS.refl r
theorem s_if {e : Expr} {sa sb : List Stmt} {pos : Pos} {rt : Sl → Mem → VL.R Bool} {ra rb : Sl → Mem → RS} (h : PT X e (tT X.K cl W rt)) (ha : PSs X sa (tS X.K cl W ra)) (hb : PSs X sb (tS X.K cl W rb)) :
    PS X (.If e sa sb pos) (tS X.K cl W fun ρ M => (rt ρ M).to ρ fun t M1 => if t = true then ra ρ M1 else rb ρ M1) := by
  refine PS.weak (ps_if h ha hb) fun D σ H z => ?_
  obtain ⟨ι, F, O, ρ, M, r, z⟩ := z
  refine ⟨ι, F, ρ, M, ⟨O, r⟩, (ResS.to r z).imp fun t M1 ι1 F1 H1 s1 f1 m1 h => ?_⟩
  cases t with
  | true => exact ⟨ι1, F1, O, ρ, M1, r.step s1 f1 m1, h⟩
  | false => exact ⟨ι1, F1, O, ρ, M1, r.step s1 f1 m1, h⟩
/-- a value is stored in a name -/
theorem s_asgT {st : Stmt} {t : TE} {i : Nat} {ra : Sl → Mem → VL.R D} (h : PS X st (tAsg t (gName i))) (q : ∀ σ H Q, tE X.K cl W ra σ H Q → t σ H Q) :
    PS X st (tS X.K cl W fun ρ M => (ra ρ M).to ρ fun d M1 => match bindP (.v i) d ρ with
      | some ρ' => .nx ρ' M1
      | none => .st) := by
  refine PS.weak h fun D σ H z => q σ H _ (s_do (f := fun d ρ M1 => match bindP (.v i) d ρ with
      | some ρ' => .nx ρ' M1
      | none => .st) z fun ι F O ρ M d H1 r hz v hv => ?_)
  exact hz ι F O H1 _ StS.refl (r.setFz hv)
theorem s_ownT {st : Stmt} {t : TE} {i : Nat} {ra : Sl → Mem → VL.R (Md × D)} (h : PS X st (tAsg t (gName i))) (q : ∀ σ H Q, tO X.K cl W ra σ H Q → t σ H Q) :
    PS X st (tS X.K cl W fun ρ M => (ra ρ M).to ρ fun r M1 => .nx (ρ.set i (slM r)) M1) := by
  refine PS.weak h fun D σ H z => q σ H _ ?_
  obtain ⟨ι, F, O, ρ, M, r, z⟩ := z
  refine ⟨ι, F, ρ, M, ⟨O, r⟩, ?_⟩
  dsimp only at z
  cases e : ra ρ M with
  | st => rw [e] at z; exact z
  | ex c M1 => rw [e] at z; exact fun ι1 F1 H1 s1 f1 m1 => z _ _ _ _ _ s1.toS (r.step s1 f1 m1)
  | ok d M1 =>
    rw [e] at z
    intro ι1 F1 H1 s1 f1 m1 v T hv hT
    have r1 := r.step s1 f1 m1
    exact z ι1 F1 _ H1 _ (s1.toS.or (T := T) fun a ha => .inl (hT.at_ a ha).2.2.1) (r1.put hv (hT.sep fun a ha => (r.own a ha).2.2.ne))
/-- other targets -/
theorem s_asgP {st : Stmt} {t : TE} {p : Pt} {ra : Sl → Mem → VL.R D} (h : PS X st (tAsg t (tG X.K p))) (q : ∀ σ H Q, tE X.K cl W ra σ H Q → t σ H Q) :
    PS X st (tS X.K cl W fun ρ M => (ra ρ M).to ρ fun d M1 => match bindP p d ρ with
      | some ρ' => .nx ρ' M1
      | none => .st) := by
  refine PS.weak h fun D σ H z => q σ H _ (s_do (f := fun d ρ M1 => match bindP p d ρ with
      | some ρ' => .nx ρ' M1
      | none => .st) z fun ι F O ρ M d H1 r hz v hv => ?_)
  cases e : bindP p d ρ with
  | none => simp only [e] at hz; exact hz.elim
  | some ρ' =>
    simp only [e] at hz
    exact ⟨ι, F, O, ρ, M, d, ρ', r, hv, e, fun σ' r' o => hz ι F O H1 σ' StS.refl r'⟩
theorem swt_no {ts : List Expr} {e : Expr} {l : Nat} {env : Env} (h : compB e = false) : swapsWithSole ts e l env = pure false := by
  unfold swapsWithSole
  split
  · exact sw_no h
  · rfl
theorem sws_no {es : List Expr} {k : Nat} {p : Pos} {e : Expr} {env : Env} (h : tupB e = false) : swappedStores [.Tuple es k p] e env = pure none := by
  cases e <;> first | rfl | cases h
theorem sub_assign {o i : Expr} {pos : Pos} {env : Env} (h : pixB i = true) : ∀ v, assign (.Subscript o i pos) env v = (do
      let ov ← holding [v] (eval o env)
      let iv ← holding [v, ov] (eval i env)
      standAt pos
      holding [v, ov, iv] (setItem ov iv v)
      release [v, ov, iv] []) := by
  cases i <;> first | (intro v; rfl) | cases h
/-! ### paths and what is put in -/
theorem nox_res {α : Type} {K : PySem.W.Frag} {ι : List Addr} {F H : Hp} {σ : L2.St} {x : VL.R α} {Pd : α → Mem → List Addr → Hp → Hp → Prop} (h : Res K cl W ι F σ H x.nox Pd) : ∃ d M, x = .ok d M := by
  cases x with
  | ok d M => exact ⟨d, M, rfl⟩
  | ex _ _ => exact h.elim
  | st => exact h.elim
def tPath (K : PySem.W.Frag) (i : Nat) (rp : Sl → Mem → VL.R (List D)) : TE := fun σ H Q => ∃ ι F ρ M ks M' v w, SR K ι F ρ M σ H ∧ rp ρ M = .ok ks M' ∧ σ[i]? = some (some v) ∧ PathO ι H v ks w ∧
  ∀ ι' F' H', Stp ι F H ι' F' H' → FSub F' H' → MemRep K ι' F' M' H' → Q w H'
theorem evEs_snoc {ρ : Sl} {p : Ex} : ∀ {ps : List Ex} {M : Mem}, evEs c (ps ++ [p]) ρ M = (evEs c ps ρ M).bind fun ks M1 => (evE c p ρ M1).bind fun k M2 => .ok (ks ++ [k]) M2
  | [], M => by
    simp only [List.nil_append, evEs, R.bind_ok]
  | q :: ps, M => by
    simp only [List.cons_append, evEs, R.bind_assoc]
    congr 1
    funext d M1
    rw [evEs_snoc (ps := ps)]
    simp only [R.bind_assoc, R.bind_ok, List.cons_append]
theorem s_path (w : XW P nm cl n X sc W) {i : Nat} : ∀ {r : List Ex} {e : Expr}, mPth X.N nm sc i r e = true → PE X e (tPath X.K i (evEs (cfgN P n) r.reverse))
  | [], e, h => by
    unfold mPth at h
    unfold mE at h
    split at h
    · simp only [Bool.and_eq_true, decide_eq_true_eq] at h
      refine PE.weak (s_var w h.1 h.2) fun σ H Q z => ?_
      obtain ⟨ι, F, ρ, M, ks, M', v, w, r, e1, e2, e3, q⟩ := z
      simp only [List.reverse_nil, evEs] at e1
      cases e1
      cases (show v = w from e3)
      exact ⟨v, e2, q _ _ _ Stp.refl r.sub r.mem⟩
    · cases h
  | p :: r, e, h => by
    unfold mPth at h
    split at h
    · simp only [Bool.and_eq_true] at h
      obtain ⟨⟨h1, h2⟩, h3⟩ := h
      refine PE.weak (pe_ix ix_list (s_path w h2) (sE p w h3).1 (pix_ok h1)) fun σ H Q z => ?_
      obtain ⟨ι, F, ρ, M, ks', M', v, w, r0, ee, ev, hp, q⟩ := z
      rw [List.reverse_cons, evEs_snoc] at ee
      cases e1 : evEs (cfgN P n) r.reverse ρ M with
      | ex _ _ => rw [e1] at ee; cases ee
      | st => rw [e1] at ee; cases ee
      | ok ks M1 =>
        rw [e1, R.bind_ok] at ee
        cases e2 : evE (cfgN P n) p ρ M1 with
        | ex _ _ => rw [e2] at ee; cases ee
        | st => rw [e2] at ee; cases ee
        | ok k M2 =>
          rw [e2, R.bind_ok] at ee
          cases ee
          obtain ⟨w1, p1, p2⟩ := hp.snoc
          refine ⟨ι, F, ρ, M, ks, M1, v, w1, r0, e1, ev, p1, fun ι1 F1 H1 s1 f1 m1 => ⟨ι1, F1, ρ, M1, r0.step s1 f1 m1, ?_⟩⟩
          rw [e2]
          intro ι2 F2 H2 s2 f2 m2 y hy
          obtain ⟨p0, xs, j, w2, g1, g2, g3, g4, g5, g6⟩ := p2.step (s1.trans s2)
          subst g4
          cases (show w2 = w from g6)
          exact ⟨p0, xs, j, _, g1, hy.getInt, .inl (.inl g2), g5, q _ _ _ (s1.trans s2) f2 m2⟩
    · cases h
theorem mPth_base {N : List Str} {i : Nat} {r : List Ex} {o : Expr} {m : Str} {env : Env} (h : mPth N nm sc i r o = true) : attributeBase o m env (eval o env) = eval o env := by
  cases r with
  | nil =>
    unfold mPth mE at h
    split at h
    · rfl
    · cases h
  | cons p r =>
    unfold mPth at h
    split at h
    · rfl
    · cases h
def tEl (K : PySem.W.Frag) (cl : Nat → Value) (W : WXX) (c : Cfg) (el : El) : TE := fun σ H Q => ∃ ι F O ρ M, SRO K ι F O ρ M σ H ∧ Res K cl W ι F σ H (evL c el ρ M) fun r M' ι' F' H' => ∀ v T O', SRO K ι' F' O' (giveS el ρ) M' σ H' → DRep K ι' F' H' r.1 v r.2 T → Sep ι' F' O' H' T →
  (∀ a, O' a → O a) → (∀ a, T a → O a ∨ H a = none) → Q v H'
theorem s_el (w : XW P nm cl n X sc W) {el : El} {e : Expr} (h : mEl X.N nm sc el e = true) : PE X e (tEl X.K cl W (cfgN P n) el) := by
  cases el with
  | a a =>
    refine PE.weak (sA a w h) fun σ H Q z => ?_
    obtain ⟨ι, F, O, ρ, M, r, z⟩ := z
    refine ⟨ι, F, ρ, M, ⟨O, r⟩, Res.imp z fun d M1 ι1 F1 H1 s1 f1 m1 q v T hv hT => ?_⟩
    exact q v T O (r.step s1 f1 m1) hv (hT.sep fun a ha => (r.own a ha).2.2.ne) (fun _ h => h) fun a ha => .inr (hT.at_ a ha).2.2.1
  | mv j =>
    have h : mE X.N nm (.var j) sc e = true := h
    unfold mE at h
    split at h
    · simp only [Bool.and_eq_true, decide_eq_true_eq] at h
      refine PE.weak (s_var w h.1 h.2) fun σ H Q z => ?_
      obtain ⟨ι, F, O, ρ, M, r, z⟩ := z
      simp only [evL] at z
      split at z
      · rename_i m d ej
        obtain ⟨v, T, e1, dr, hO, hs, r1⟩ := r.take ej
        exact ⟨v, e1, Res.of_ok z r.sub r.mem v T _ r1 dr hs (fun a ha => ha.1) fun a ha => .inl (hO a ha)⟩
      · exact z.elim
    · cases h
/-- a change, when all is there -/
theorem mu_go {ι ι' : List Addr} {F F' H H' : Hp} {O O' T : Addr → Prop} {ρ : Sl} {M : Mem} {σ : L2.St} {i : Nat} {m : Md} {d k : D} {ks : List D} {mu : Mu} {r : Md × D} {v y : V} {a : Addr} {D0 : Ends} (s : StS ι F O H ι' F' (fun a => O' a ∨ T a) H')
    (sr : SRO X.K ι' F' O' ρ M σ H') (hi : ρ[i]? = some (.ow m d)) (hv : σ[i]? = some (some v)) (hp : PathO ι' H' v ks (.ref a)) (hm : dnP m ks ≠ .z) (hy : DRep X.K ι' F' H' r.1 y r.2 T) (hT : Sep ι' F' O' H' T) (z : ResS X.K cl W ι F O σ H (muR i m d ks mu k r ρ M) D0) :
    ∃ vs ds, H' a = some (.lst vs) ∧ getP d ks = some (.lst ds) ∧ vs.length = ds.length ∧ ∃ ds', muD mu k ds r.2 = some ds' ∧
      ∀ vs' : List V, (∀ T0 : Addr → Prop, ∀ md, (∀ a, T0 a → ¬ T a) → DReps X.K ι' F' H' md vs ds T0 → DRep X.K ι' F' H' md y r.2 T → ∃ T1 : Addr → Prop, DReps X.K ι' F' H' md vs' ds' T1 ∧ ∀ b, T1 b → T0 b ∨ T b) → D0.nx σ (upd H' a (.lst vs')) := by
  unfold muR at z
  split at z
  · rename_i ds hg
    split at z
    · rename_i m' ds' e1 e2
      obtain ⟨vs, T0, g1, g2, g3⟩ := sr.there hi hg hm hv hp
      refine ⟨vs, ds, g1, hg, g2.length, ds', e2, fun vs' hn => ?_⟩
      have hpp := put_parts g2 e1
      have ch := sr.change (ds' := ds') (vs' := vs') (U := T) (m' := m') hi hg hm hv hp hT (hpp.2.2.1 hm) (fun hk => hpp.2.2.2 (by cases ks; exact absurd rfl hk; rfl)) fun vs0 T00 q1 q2 q3 => by
        rw [g1] at q1; cases q1
        have hq := put_parts q2 e1
        exact hn T00 m'.dn (fun b hb ht => (hT.at_ b ht).1 (q3 b hb)) hq.1 (hq.2.1 y T hy)
      exact z _ _ _ _ _ (s.trans ch.1) ch.2
    · exact z.elim
  · exact z.elim
theorem give_get {el : El} {ρ : Sl} {i : Nat} {m : Md} {d : D} (h : (giveS el ρ)[i]? = some (.ow m d)) : ρ[i]? = some (.ow m d) := by
  cases el with
  | a a => exact h
  | mv j =>
    have h : (ρ.set j .un)[i]? = some (.ow m d) := h
    rw [List.getElem?_set] at h
    split at h
    · split at h <;> cases h
    · exact h
/-- x.append(e) -/
theorem s_app (w : XW P nm cl n X sc W) {i : Nat} {ps : List Ex} {el : El} {o ea : Expr} {ap cp pos : Pos} (hl : (ap.endLine == cp.line) = true) (hn : nst ea = true) (ho : mPth X.N nm sc i ps.reverse o = true) (he : mEl X.N nm sc el ea = true) :
    PS X (.Expr (.Call (.Attribute o "append" ap) [ea] [] cp) pos) (tS X.K cl W (evS (cfgN P n) (.mut i ps .app el))) := by
  have hpath := s_path w ho
  rw [List.reverse_reverse] at hpath
  have hp := pe_bm (X := X) (cpos := cp) (apos := ap) PySem.F.plainAttrs_list PySem.F.slot_list_append PySem.F.type_list_append mt_append hpath (pa_cons (s_el w he) pa_nil (star_ok hn)) (mPth_base ho) (by rw [star_ok hn]; rfl) hl (star_ok hn) rfl
  refine PS.weak (ps_expr hp rfl) fun D σ H z => ?_
  obtain ⟨ι, F, O, ρ, M, r, z⟩ := z
  unfold evS at z
  dsimp only at z
  split at z
  · rename_i m0 d0 hi
    cases e1 : evEs (cfgN P n) ps ρ M with
    | ex _ _ => rw [e1] at z; exact z.elim
    | st => rw [e1] at z; exact z.elim
    | ok ks M1 =>
      rw [e1, R.nox_ok, R.to_ok] at z
      split at z
      · rename_i hb
        obtain ⟨v, a, vs0, ds0, ev, p0, g0, hg0, hm0⟩ := r.path hi hb
        simp only [muK, evE, R.to_ok] at z
        refine ⟨ι, F, ρ, M, ks, M1, v, .ref a, ⟨O, r⟩, e1, ev, p0, fun ι1 F1 H1 s1 f1 m1 => ?_⟩
        have r1 := r.step s1 f1 m1
        obtain ⟨vs1, T1, g1, _, _⟩ := r1.there hi hg0 hm0 ev (p0.step s1)
        refine ⟨.inl ⟨rfl, vs1, .inl (.inl g1)⟩, ι1, F1, O, ρ, M1, r1, ?_⟩
        have z := ResS.later (σ1 := σ) z s1.toS
        cases e2 : evL (cfgN P n) el ρ M1 with
        | st => rw [e2] at z; exact z
        | ex c M2 => rw [e2] at z; exact fun ι2 F2 H2 s2 f2 m2 => z _ _ _ _ _ s2.toS (r1.step s2 f2 m2)
        | ok rr M2 =>
          rw [e2, R.to_ok] at z
          intro ι2 F2 H2 s2 f2 m2 y T O' r' hd hs hO hT
          split at z
          · rename_i m d hi2
            have hi3 := give_get hi2
            rw [hi] at hi3; cases hi3
            obtain ⟨vs, ds, g2, hg, hlen, ds', hmu, go⟩ := mu_go (X := X) (y := y) ⟨s2.pre, s2.subF, fun a h n _ e => s2.newF a h n e, fun a h => h.elim (fun h => .inr (hO a h)) fun h => (hT a h).symm, fun a u h n _ => s2.keep a u h n, s2.live⟩ r' hi2 ev ((p0.step s1).step s2) hm0 hd hs z
            unfold muD at hmu
            dsimp only at hmu
            split at hmu
            · rename_i hlt
              cases hmu
              refine ⟨a, vs, y, rfl, rfl, g2, by rw [hlen]; exact hlt, go _ fun T0 md hd0 q1 q2 => ⟨fun b => T0 b ∨ T b, q1.append (.one q2) (fun _ h => .inl h) (fun _ h => .inr h) hd0, fun _ h => h⟩⟩
            · cases hmu
          · exact z.elim
      · exact z.elim
  · exact z.elim
/-- x.clear(), x.reverse() -/
theorem s_mu0 (w : XW P nm cl n X sc W) {i : Nat} {ps : List Ex} {mu : Mu} {m id : Str} {T : String} {o : Expr} {ap cp pos : Pos} {rr : V → List V → Hp → VK → Prop} {g : List V → List V} {g' : List D → List D} (hl : (ap.endLine == cp.line) = true) (ho : mPth X.N nm sc i ps.reverse o = true)
    (hpe : ∀ to, PE X o to → PE X (.Call (.Attribute o m ap) [] [] cp) (tBM0 X.K "list" rr to)) (hr : ∀ l xs H Q, H l = some (.lst xs) → Q .non (upd H l (.lst (g xs))) → rr (.ref l) [] H Q)
    (hmu : ∀ k ds y, muD mu k ds y = some (g' ds)) (hk : ∀ k, mu ≠ .setk k) (hk2 : muK mu = .lit .non)
    (hD : ∀ (ι : List Addr) (F H : Hp) md vs ds T0, DReps X.K ι F H md vs ds T0 → DReps X.K ι F H md (g vs) (g' ds) T0) :
    PS X (.Expr (.Call (.Attribute o m ap) [] [] cp) pos) (tS X.K cl W (evS (cfgN P n) (.mut i ps mu (.a (.e (.lit .non)))))) := by
  have hpath := s_path w ho
  rw [List.reverse_reverse] at hpath
  refine PS.weak (ps_expr (hpe _ hpath) rfl) fun D σ H z => ?_
  obtain ⟨ι, F, O, ρ, M, r, z⟩ := z
  unfold evS at z
  split at z
  · rename_i k; exact absurd rfl (hk k)
  split at z
  · rename_i m0 d0 hi
    cases e1 : evEs (cfgN P n) ps ρ M with
    | ex _ _ => rw [e1] at z; exact z.elim
    | st => rw [e1] at z; exact z.elim
    | ok ks M1 =>
      rw [e1, R.nox_ok, R.to_ok] at z
      split at z
      · rename_i hb
        obtain ⟨v, a, vs0, ds0, ev, p0, g0, hg0, hm0⟩ := r.path hi hb
        rw [hk2] at z
        simp only [evE, R.to_ok, evL, evA, R.bind_ok, giveS, hi] at z
        refine ⟨ι, F, ρ, M, ks, M1, v, .ref a, ⟨O, r⟩, e1, ev, p0, fun ι1 F1 H1 s1 f1 m1 => ?_⟩
        have r1 := r.step s1 f1 m1
        have z := ResS.later (σ1 := σ) z s1.toS
        obtain ⟨vs, ds, g2, hg, hlen, ds', hm, go⟩ := mu_go (X := X) (y := .non) (T := fun _ => False) (O' := O) ⟨⟨[], by simp, by simp⟩, fun _ _ h => h, fun _ _ _ _ h => h, fun a h => h.elim .inr fun h => h.elim, fun a u h _ _ => h, fun _ h => h⟩ r1 hi ev (p0.step s1) hm0 (.fz .non (.inl rfl)) ⟨fun _ h => h.elim⟩ z
        rw [hmu] at hm
        cases hm
        exact ⟨.inl ⟨rfl, vs, .inl (.inl g2)⟩, hr a vs H1 _ g2 (go _ fun T0 md _ q1 _ => ⟨T0, hD _ _ _ _ _ _ _ q1, fun _ h => .inl h⟩)⟩
      · exact z.elim
  · exact z.elim
theorem sw_sub1 {o i e : Expr} {p : Pos} {l : Nat} {env : Env} : swapsWithSole [.Subscript o i p] e l env = pure false := by
  cases e <;> rfl
/-- x[k] = v -/
theorem s_setk (w : XW P nm cl n X sc W) {i : Nat} {ps : List Ex} {k : Ex} {el : El} {o ek ev : Expr} {tp pos : Pos} (ho : mPth X.N nm sc i ps.reverse o = true) (hk : mE X.N nm k sc ek = true) (he : mEl X.N nm sc el ev = true) (hp : pixB ek = true) :
    PS X (.Assign [.Subscript o ek tp] ev pos) (tS X.K cl W (evS (cfgN P n) (.mut i ps (.setk k) el))) := by
  have hpath := s_path w ho
  rw [List.reverse_reverse] at hpath
  refine PS.weak (ps_asg (s_el w he) (pg_sub hpath (sE k w hk).1 set_list (sub_assign hp)) sw_sub1 rfl) fun D σ H z => ?_
  obtain ⟨ι, F, O, ρ, M, r, z⟩ := z
  unfold evS at z
  dsimp only at z
  refine ⟨ι, F, O, ρ, M, r, ?_⟩
  cases e2 : evL (cfgN P n) el ρ M with
  | st => rw [e2] at z; exact z
  | ex c M2 => rw [e2] at z; exact fun ι2 F2 H2 s2 f2 m2 => z _ _ _ _ _ s2.toS (r.step s2 f2 m2)
  | ok rr M1 =>
    rw [e2, R.to_ok] at z
    intro ι1 F1 H1 s1 f1 m1 y T O' r' hd hs hO hT
    split at z
    · rename_i m d hi
      have z := ResS.later (σ1 := σ) z (show StS ι F O H ι1 F1 (fun a => O' a ∨ T a) H1 from ⟨s1.pre, s1.subF, fun a h n _ e => s1.newF a h n e, fun a h => h.elim (fun h => .inr (hO a h)) fun h => (hT a h).symm, fun a u h n _ => s1.keep a u h n, s1.live⟩)
      cases e1 : evEs (cfgN P n) ps (giveS el ρ) M1 with
      | ex _ _ => rw [e1] at z; exact z.elim
      | st => rw [e1] at z; exact z.elim
      | ok ks M2 =>
        rw [e1, R.nox_ok, R.to_ok] at z
        split at z
        · rename_i hb
          obtain ⟨v, a, vs0, ds0, hv, p0, g0, hg0, hm0⟩ := r'.path hi hb
          refine ⟨ι1, F1, giveS el ρ, M1, ks, M2, v, .ref a, ⟨O', r'⟩, e1, hv, p0, fun ι2 F2 H2 s2 f2 m2 => ?_⟩
          have r2 := r'.step s2 f2 m2
          refine ⟨ι2, F2, giveS el ρ, M2, ⟨O', r2⟩, ?_⟩
          cases e3 : evE (cfgN P n) k (giveS el ρ) M2 with
          | st => rw [e3] at z; exact z
          | ex c M3 => rw [e3] at z; exact fun ι3 F3 H3 s3 f3 m3 => z _ _ _ _ _ ⟨(s2.trans s3).pre, (s2.trans s3).subF, fun a h n _ e => (s2.trans s3).newF a h n e, fun a h => .inr (.inl h), fun a u h n _ => (s2.trans s3).keep a u h n, (s2.trans s3).live⟩ (r2.step s3 f3 m3)
          | ok x M3 =>
            rw [e3, R.to_ok] at z
            intro ι3 F3 H3 s3 f3 m3 u hu
            have s23 := s2.trans s3
            obtain ⟨vs, ds, g2, hg, hlen, ds', hmu, go⟩ := mu_go (X := X) (y := y) s23.toS (r2.step s3 f3 m3) hi hv (p0.step s23) hm0 (s23.drep hd fun a ha => (hs.at_ a ha).2.2.1) (s23.sep hs) z
            unfold muD at hmu
            split at hmu <;> try (cases hmu; done)
            · rename_i h; cases h
            · rename_i k' j _
              simp only [Option.map_eq_some_iff] at hmu
              obtain ⟨n', en, rfl⟩ := hmu
              refine ⟨a, vs, j, n', rfl, hu.getInt, g2, by rw [hlen]; exact en, go _ fun T0 md hd0 q1 q2 => ?_⟩
              obtain ⟨_, hlt, _, _⟩ := ixN_seq en
              obtain ⟨v1, A, _, _, _, gf⟩ := q1.focus (List.getElem?_eq_getElem hlt)
              exact ⟨fun b => T0 b ∨ T b, gf _ y rr.2 T T (fun _ _ _ _ h => h) q2 (fun _ h => .inr h) fun b hb h0 => hd0 b h0 hb, fun _ h => h⟩
            · rename_i h; cases h
            · rename_i h; cases h
            · rename_i h; cases h
        · exact z.elim
    · exact z.elim
/-- p = x.pop(k) -/
theorem s_popT {i : Nat} {ps : List Ex} {p : Pt} {k : Ex} {st : Stmt} {t : TE} {ι : List Addr} {F : Hp} {O : Addr → Prop} {ρ : Sl} {M1 M2 : Mem} {σ : L2.St} {H : Hp} {D0 : Ends} {m : Md} {d x : D} {ks : List D} {v : V} {a : Addr} (r : SRO X.K ι F O ρ M2 σ H) (hi : ρ[i]? = some (.ow m d)) (hm : dnP m ks ≠ .z) (hv : σ[i]? = some (some v)) (hp : PathO ι H v ks (.ref a))
    (z : ResS X.K cl W ι F O σ H (match getP d ks, x with
        | some (.lst ds), .int j => (match L2.ixN ds.length j with
          | some n => (match ds[n]? with
            | some y => if y.isLD = false ∧ -(2 ^ 63) ≤ j ∧ j < 2 ^ 63 then (match bindP p y (ρ.set i (.ow m (setP d ks (.lst (ds.eraseIdx n))))) with
              | some ρ' => .nx ρ' M2
              | none => .st) else .st
            | none => .st)
          | none => .st)
        | _, _ => .st) D0) :
    ∃ vs j n y, x = .int j ∧ H a = some (.lst vs) ∧ -(2 ^ 63) ≤ j ∧ j < 2 ^ 63 ∧ L2.ixN vs.length j = some n ∧ vs[n]? = some y ∧ tG X.K p y σ (upd H a (.lst (vs.eraseIdx n))) D0.nx := by
  split at z
  · rename_i ds j hg
    obtain ⟨vs, T0, g1, g2, g3⟩ := r.there hi hg hm hv hp
    split at z
    · rename_i n' en
      split at z
      · rename_i y ey
        split at z
        · rename_i hc
          obtain ⟨hy, h1, h2⟩ := hc
          obtain ⟨u, A, eu, du, _⟩ := g2.get ey
          refine ⟨vs, j, n', u, rfl, g1, h1, h2, by rw [g2.length]; exact en, eu, ?_⟩
          split at z
          · rename_i ρ' eb
            have ch := r.change (ds' := ds.eraseIdx n') (vs' := vs.eraseIdx n') (U := fun _ => False) (m' := dnP m ks) hi hg hm hv hp ⟨fun _ h => h.elim⟩ hm (fun _ => rfl) fun vs1 T1 q1 q2 q3 => by
              rw [g1] at q1; cases q1
              exact ⟨T1, q2.erase n', fun _ h => .inl h⟩
            have em : (if ks.isEmpty = true then dnP m ks else m) = m := by
              cases ks <;> rfl
            rw [em] at ch
            have hr := du.flat (.inr hy)
            refine ⟨ι, F, _, _, M2, y, ρ', ch.2, hr, eb, fun σ' r' o => ?_⟩
            exact z _ _ _ _ _ ((StS.refl.or (T := fun _ => False) fun _ h => h.elim).trans ch.1) r'
          · exact z.elim
        · exact z.elim
      · exact z.elim
    · exact z.elim
  · exact z.elim
/-- x op= e -/
theorem ip_V (o : BOp) : PIp X (pyOp o) (rOp X.K (augD o)) := by
  intro pins s σ H x y v u Q I rx ry h
  obtain ⟨ι, F, M, a, b, d, f, m, ra, rb, e, q⟩ := h
  unfold augD at e
  split at e
  · cases e; rw [ra.int] at rx; rw [rb.int] at ry
    exact iop_add pins s σ H _ _ v u Q I rx ry ⟨_, _, rfl, rfl, fin_same f m q (.int _)⟩
  · cases e; rw [ra.int] at rx; rw [rb.int] at ry
    exact iop_sub pins s σ H _ _ v u Q I rx ry ⟨_, _, rfl, rfl, fin_same f m q (.int _)⟩
  · split at e
    · rename_i hc; cases e; rw [ra.str] at rx; rw [rb.str] at ry
      exact iop_add_str pins s σ H _ _ v u Q I rx ry ⟨_, _, rfl, rfl, hc, fin_same f m q (.str _)⟩
    · cases e
  · cases e
theorem s_aug (w : XW P nm cl n X sc W) {i : Nat} {x : Str} {o : BOp} {e : Expr} {tp pos : Pos} {ra : Sl → Mem → VL.R D} (h1 : X.N[i]? = some x) (h2 : locB sc x = true) (he : PE X e (tE X.K cl W ra)) :
    PS X (.AugAssign (.Name x tp) (pyOp o) e pos) (tS X.K cl W fun ρ M => match ρ[i]? with
    | some (.fz x) => (ra ρ M).to ρ fun y M1 => (R.of (augD o x y) M1).to ρ fun z M2 => .nx (ρ.set i (.fz z)) M2
    | _ => .st) := by
  obtain ⟨l, f⟩ := w.loc h2
  refine PS.weak (ps_aug w.nd h1 l he (ip_V o) f) fun D σ H z => ?_
  obtain ⟨ι, F, O, ρ, M, r, z⟩ := z
  dsimp only at z
  split at z
  · rename_i d ei
    obtain ⟨v, e1, rv⟩ := r.fz i d ei
    refine ⟨v, e1, ι, F, ρ, M, ⟨O, r⟩, (ResS.to r z).imp fun y M1 ι1 F1 H1 s1 f1 m1 h u hu => ?_⟩
    have r1 := r.step s1 f1 m1
    cases e2 : augD o d y with
    | none => rw [e2] at h; exact h.elim
    | some t =>
      rw [e2] at h
      refine ⟨ι1, F1, M1, d, y, t, f1, m1, .inl (s1.rep rv), .inl hu, e2, fun F2 H2 k s2 f2 m2 hk => ?_⟩
      exact h _ _ _ _ _ s2.toS ((r1.step s2 f2 m2).setFz hk)
  · exact z.elim
theorem s_raise (w : XW P nm cl n X sc W) {k : Nat} {x m : Str} {p p2 cp pos : Pos} {j : Nat} (h1 : nm.excs[k]? = some x) (h2 : glB sc x = true) :
    PS X (.Raise (some (.Call (.Name x p) [.Constant (.str m) j p2] [] cp)) none pos) (tS X.K cl W fun ρ M => .ex k ρ M) := by
  obtain ⟨g, o⟩ := w.gl h2
  obtain ⟨a1, b1, _⟩ := okN_d o
  obtain ⟨C, e1, e2, e3, e4, e5, e6⟩ := w.fx.excs k x h1
  refine PS.weak (ps_raise w.calm w.tk (pmk_own PySem.F.excBase_ValueError e4 e2 e3 (raises_own e5 e6) g a1)) fun D σ H z => ?_
  obtain ⟨ι, F, O, ρ, M, r, z⟩ := z
  have z := z ι F O H σ StS.refl r
  rw [e1] at z
  exact z
theorem s_brk {pos : Pos} : PS X (.Break pos) (tS X.K cl W fun ρ M => .bk ρ M) := PS.weak ps_break fun D σ H ⟨ι, F, O, ρ, M, r, z⟩ => z ι F O H σ StS.refl r
theorem s_cnt {pos : Pos} : PS X (.Continue pos) (tS X.K cl W fun ρ M => .ct ρ M) := PS.weak ps_continue fun D σ H ⟨ι, F, O, ρ, M, r, z⟩ => z ι F O H σ StS.refl r
theorem s_pass {pos : Pos} : PS X (.Pass pos) (tS X.K cl W fun ρ M => .nx ρ M) := PS.weak ps_pass fun D σ H ⟨ι, F, O, ρ, M, r, z⟩ => z ι F O H σ StS.refl r
/-- for -/
theorem s_for (w : XS P nm cl n X sc W) {p : Pt} {tg iter : Expr} {body : List Stmt} {pos : Pos} {ri : Sl → Mem → VL.R (List D)} {rb : Sl → Mem → RS} (hset : ∀ a b c, iter ≠ .Set a b c)
    (hi : PI X tg iter (tI X.K cl W ri)) (hg : PG X tg (tG X.K p)) (hb : PSs X body (tS X.K cl W rb)) :
    PS X (.For tg iter body [] pos) (tS X.K cl W fun ρ M => (ri ρ M).to ρ fun items M2 => forL (fun d ρ M => match bindP p d ρ with
        | some ρ' => rb ρ' M
        | none => .st) items ρ M2) := by
  refine PS.weak (ps_for w.own w.w.calm hi hg hb (set_ok hset)) fun D σ H z => ?_
  obtain ⟨ι, F, O, ρ, M, r, z⟩ := z
  refine ⟨ι, F, ρ, M, ⟨O, r⟩, (ResS.to r z).imp fun items M2 ι2 F2 H2 s2 f2 m2 h J wk hl => ?_⟩
  have r2 := r.step s2 f2 m2
  generalize hf : (fun d ρ M => match bindP p d ρ with
        | some ρ' => rb ρ' M
        | none => RS.st : VL.D → Sl → Mem → RS) = f at h
  refine ⟨fun i m σc Hc => m = items.length - i ∧ i ≤ items.length ∧ ∃ ι F O ρc M, SRO X.K ι F O ρc M σc Hc ∧ (∀ (k : Nat) a, ι2[k]? = some a → ι[k]? = some a) ∧ (∀ a u, F2 a = some u → F a = some u) ∧ Kp F2 H2 Hc ∧ ResS X.K cl W ι F O σc Hc (forL f (items.drop i) ρc M) D,
    ⟨items.length, rfl, Nat.zero_le _, ι2, F2, O, ρ, M2, r2, fun _ _ h => h, fun _ _ h => h, Kp.refl, by simpa using h⟩, ?_⟩
  rintro i m σc Hc ⟨rfl, hi, ι3, F3, O3, ρc, M3, rc, hι, hF, hk, hc⟩
  by_cases hlt : i < items.length
  · refine .inr ⟨wk.go i F3 Hc hF rc.sub hk hlt, fun σ' H' => ∃ ι F O ρc M, SRO X.K ι F O ρc M σ' H' ∧ (∀ (k : Nat) a, ι2[k]? = some a → ι[k]? = some a) ∧ (∀ a u, F2 a = some u → F a = some u) ∧ Kp F2 H2 H' ∧ ResS X.K cl W ι F O σ' H' (forL f (items.drop (i + 1)) ρc M) D, fun σ' H' hN => ⟨items.length - (i + 1), by omega, rfl, by omega, hN⟩, fun x H' y => ?_⟩
    obtain ⟨d, F4, e1, s4, f4, m4, rx⟩ := wk.yld i ι3 F3 Hc M3 x H' hι hF rc.sub hk rc.mem y hlt
    have edrop : items.drop i = d :: items.drop (i + 1) := by
      rw [List.drop_eq_getElem_cons hlt]
      rw [List.getElem?_eq_getElem hlt] at e1
      cases e1; rfl
    rw [edrop] at hc
    have r4 := rc.step s4 f4 m4
    have hc := ResS.later (σ1 := σc) hc s4.toS
    have efd : f d ρc M3 = (match bindP p d ρc with | some ρ' => rb ρ' M3 | none => RS.st) := by rw [← hf]
    cases eb : bindP p d ρc with
    | none =>
      rw [eb] at efd
      simp only [forL, efd] at hc
      exact hc.elim
    | some ρ' =>
      rw [eb] at efd
      refine ⟨ι3, F4, O3, ρc, M3, d, ρ', r4, rx, eb, fun σ5 r5 o5 => ⟨ι3, F4, O3, ρ', M3, r5, ?_⟩⟩
      have hc := ResS.later (σ1 := σ5) hc StS.refl
      simp only [forL, efd] at hc
      have hF4 : ∀ a u, F2 a = some u → F4 a = some u := fun a u h => s4.subF a u (hF a u h)
      cases er : rb ρ' M3 with
      | nx ρ6 M6 =>
        rw [er] at hc
        exact fun ι6 F6 O6 H6 σ6 s6 r6 => ⟨ι6, F6, O6, ρ6, M6, r6, fun k a h => s6.ix k a (hι k a h), fun a u h => s6.subF a u (hF4 a u h), (hk.trans (s4.kp rc.mem) hF).trans (s6.kp r5) hF4, ResS.later hc s6⟩
      | ct ρ6 M6 =>
        rw [er] at hc
        exact fun ι6 F6 O6 H6 σ6 s6 r6 => ⟨ι6, F6, O6, ρ6, M6, r6, fun k a h => s6.ix k a (hι k a h), fun a u h => s6.subF a u (hF4 a u h), (hk.trans (s4.kp rc.mem) hF).trans (s6.kp r5) hF4, ResS.later hc s6⟩
      | bk ρ6 M6 => rw [er] at hc; exact hc
      | rt d6 M6 => rw [er] at hc; exact hc
      | ex c6 ρ6 M6 => rw [er] at hc; exact hc
      | st => rw [er] at hc; exact hc
  · have e : i = items.length := by omega
    subst e
    rw [List.drop_length] at hc
    exact .inl ⟨wk.stop F3 Hc hF rc.sub hk, hc ι3 F3 O3 Hc σc StS.refl rc⟩
/-- for, over a dict -/
theorem s_forK (w : XS P nm cl n X sc W) {p : Pt} {j : Nat} {tg iter : Expr} {body : List Stmt} {pos : Pos} {rb : Sl → Mem → RS} (hj : mVar X.N sc j iter = true)
    (hg : PG X tg (tG X.K p)) (hb : PSs X body (tS X.K cl W rb)) :
    PS X (.For tg iter body [] pos) (tS X.K cl W fun ρ M => match ρ[j]? with
      | some (.fz (.dic _ kvs)) => noexS (forL (fun d ρ M => match bindP p d ρ with
        | some ρ' => rb ρ' M
        | none => .st) (kvs.map (·.1)) ρ M)
      | _ => .st) := by
  have base := ps_for (pos := pos) w.own w.w.calm (s_ikeys w.w (tg := tg) hj) hg hb (set_ok fun a b c e => by rw [e] at hj; cases hj)
  refine PS.weak (PS.or base (ps_lock base)) fun D σ H z => ?_
  obtain ⟨ι, F, O, ρ, M, r, z⟩ := z
  dsimp only at z
  split at z
  · rename_i t kds ej
    generalize hf : (fun d ρ M => match bindP p d ρ with
        | some ρ' => rb ρ' M
        | none => RS.st : VL.D → Sl → Mem → RS) = f at z
    -- the walk, when the dict is locked
    have go : ∀ {D : Ends} {H : Hp}, SRO X.K ι F O ρ M σ H → LkK j σ F H ρ → ResS X.K cl W ι F O σ H (noexS (forL f (kds.map (·.1)) ρ M)) D → tFor (tIk X.K j) (tG X.K p) (tS X.K cl W rb) D σ H := fun {D H} r lk z => by
      refine ⟨ι, F, ρ, M, t, kds, ⟨O, r⟩, ej, lk, fun J wk hl => ?_⟩
      generalize hit : kds.map (·.1) = items at *
      refine ⟨fun i m σc Hc => m = items.length - i ∧ i ≤ items.length ∧ ∃ ι' F' O' ρc M, SRO X.K ι' F' O' ρc M σc Hc ∧ (∀ (k : Nat) a, ι[k]? = some a → ι'[k]? = some a) ∧ (∀ a u, F a = some u → F' a = some u) ∧ Kp F H Hc ∧ ResS X.K cl W ι' F' O' σc Hc (noexS (forL f (items.drop i) ρc M)) D,
        ⟨items.length, rfl, Nat.zero_le _, ι, F, O, ρ, M, r, fun _ _ h => h, fun _ _ h => h, Kp.refl, by simpa using z⟩, ?_⟩
      rintro i m σc Hc ⟨rfl, hi, ι3, F3, O3, ρc, M3, rc, hι, hF, hk, hc⟩
      by_cases hlt : i < items.length
      · refine .inr ⟨wk.go i F3 Hc hF rc.sub hk hlt, fun σ' H' => ∃ ι' F' O' ρc M, SRO X.K ι' F' O' ρc M σ' H' ∧ (∀ (k : Nat) a, ι[k]? = some a → ι'[k]? = some a) ∧ (∀ a u, F a = some u → F' a = some u) ∧ Kp F H H' ∧ ResS X.K cl W ι' F' O' σ' H' (noexS (forL f (items.drop (i + 1)) ρc M)) D, fun σ' H' hN => ⟨items.length - (i + 1), by omega, rfl, by omega, hN⟩, fun x H' y => ?_⟩
        obtain ⟨d, F4, e1, s4, f4, m4, rx⟩ := wk.yld i ι3 F3 Hc M3 x H' hι hF rc.sub hk rc.mem y hlt
        rw [drop_at e1] at hc
        have r4 := rc.step s4 f4 m4
        have hc := ResS.later (σ1 := σc) hc s4.toS
        have efd : f d ρc M3 = (match bindP p d ρc with | some ρ' => rb ρ' M3 | none => RS.st) := by rw [← hf]
        cases eb : bindP p d ρc with
        | none =>
          rw [eb] at efd
          simp only [forL, efd] at hc
          exact hc.elim
        | some ρ' =>
          rw [eb] at efd
          refine ⟨ι3, F4, O3, ρc, M3, d, ρ', r4, rx, eb, fun σ5 r5 o5 => ⟨ι3, F4, O3, ρ', M3, r5, ?_⟩⟩
          have hc := ResS.later (σ1 := σ5) hc StS.refl
          simp only [forL, efd] at hc
          have hF4 : ∀ a u, F a = some u → F4 a = some u := fun a u h => s4.subF a u (hF a u h)
          cases er : rb ρ' M3 with
          | nx ρ6 M6 =>
            rw [er] at hc
            exact fun ι6 F6 O6 H6 σ6 s6 r6 => ⟨ι6, F6, O6, ρ6, M6, r6, fun k a h => s6.ix k a (hι k a h), fun a u h => s6.subF a u (hF4 a u h), (hk.trans (s4.kp rc.mem) hF).trans (s6.kp r5) hF4, ResS.later hc s6⟩
          | ct ρ6 M6 =>
            rw [er] at hc
            exact fun ι6 F6 O6 H6 σ6 s6 r6 => ⟨ι6, F6, O6, ρ6, M6, r6, fun k a h => s6.ix k a (hι k a h), fun a u h => s6.subF a u (hF4 a u h), (hk.trans (s4.kp rc.mem) hF).trans (s6.kp r5) hF4, ResS.later hc s6⟩
          | bk ρ6 M6 => rw [er] at hc; exact hc
          | rt d6 M6 => rw [er] at hc; exact hc
          | ex c6 ρ6 M6 => rw [er] at hc; exact hc.elim
          | st => rw [er] at hc; exact hc.elim
      · have e : i = items.length := by omega
        subst e
        rw [List.drop_length] at hc
        exact .inl ⟨wk.stop F3 Hc hF rc.sub hk, hc ι3 F3 O3 Hc σc StS.refl rc⟩
    rcases dic_lock ⟨O, r⟩ ej with lk | ⟨d, u, g1, g2, g3, g4⟩
    · exact .inl (go r lk z)
    · refine .inr ⟨d, u, g3, isDic_mut g4, fun od => go (r.lock g2 g4) ⟨t, kds, d, od, u, ej, g1, g2, upd_same⟩ ?_⟩
      have nO : ¬ O d := fun z => by
        have := (r.own d z).1
        rw [g2] at this; cases this
      have nι : d ∉ ι := fun z => by
        have := (r.mem.there z).2
        rw [g2] at this; cases this
      have conv : ∀ {ι' : List Addr} {F' : Hp} {O' : Addr → Prop} {H' : Hp}, StS ι F O (upd H d (.frz od u)) ι' F' O' H' → H' d = some (.frz od u) ∧ StS ι F O H ι' F' O' (upd H' d u) := fun {ι' F' O' H'} s => by
        have nn : ∀ a, upd H d (.frz od u) a = none ↔ H a = none := fun a => by
          by_cases ea : a = d
          · subst ea; rw [upd_same, g3]; simp
          · rw [upd_ne ea]
        refine ⟨s.keep d _ upd_same nι nO, ?_, s.subF, fun a l n0 no e0 => ?_, fun a ha => ?_, fun a w h n0 no => ?_, fun a h => ?_⟩
        · obtain ⟨mm, e1, e2⟩ := s.pre
          exact ⟨mm, e1, fun a ha => (nn a).mp (e2 a ha)⟩
        · have ea : a ≠ d := fun z => by rw [z, g2] at e0; cases e0
          exact s.newF a (l.upd ea) n0 no e0
        · exact (s.newO a ha).imp (nn a).mp id
        · by_cases ea : a = d
          · subst ea; rw [g3] at h; cases h; exact upd_same
          · rw [upd_ne ea]; exact s.keep a w (by rw [upd_ne ea]; exact h) n0 no
        · by_cases ea : a = d
          · subst ea; rw [upd_same]; exact fun z => by cases z
          · rw [upd_ne ea]; exact s.live a fun z => h ((nn a).mp z)
      have back : ∀ {ι' : List Addr} {F' : Hp} {O' : Addr → Prop} {H' : Hp} {ρ' : Sl} {M' : Mem} {σ' : L2.St}, F' d = some u → SRO X.K ι' F' O' ρ' M' σ' H' → SRO X.K ι' F' O' ρ' M' σ' (upd H' d u) := fun {ι' F' O' H' ρ' M' σ'} fd r' => by
        have ne : ∀ a, O' a → a ≠ d := fun a h z => by
          have := (r'.own a h).1
          rw [z, fd] at this; cases this
        obtain ⟨S, h1, h2, h3⟩ := r'.ow
        exact ⟨r'.sub.unlock fd, r'.mem.at_upd (some_ne fd), r'.len, r'.fz, fun a h => let ⟨q1, q2, q3⟩ := r'.own a h; ⟨q1, q2, q3.upd (ne a h)⟩, S, fun i m dd h => let ⟨v, q1, q2⟩ := h1 i m dd h; ⟨v, q1, q2.mono (fun _ _ h => h) (fun _ _ h => h) fun a ha => ⟨ha, fun w hw => by rw [upd_ne (ne a (h2 i a ha))]; exact hw⟩⟩, h2, h3⟩
      cases er : forL f (kds.map (·.1)) ρ M with
      | nx ρ6 M6 =>
        rw [er] at z
        exact fun ι' F' O' H' σ' s r' => let ⟨k1, k2⟩ := conv s; ⟨k1, z _ _ _ _ _ k2 (back (s.subF _ _ g2) r')⟩
      | bk ρ6 M6 =>
        rw [er] at z
        exact fun ι' F' O' H' σ' s r' => let ⟨k1, k2⟩ := conv s; ⟨k1, z _ _ _ _ _ k2 (back (s.subF _ _ g2) r')⟩
      | ct ρ6 M6 =>
        rw [er] at z
        exact fun ι' F' O' H' σ' s r' => let ⟨k1, k2⟩ := conv s; ⟨k1, z _ _ _ _ _ k2 (back (s.subF _ _ g2) r')⟩
      | rt d6 M6 =>
        rw [er] at z
        refine fun ι' F' O' H' v T s f m hv hT => let ⟨k1, k2⟩ := conv s; ⟨k1, z _ _ _ _ _ T k2 (f.unlock (s.subF _ _ g2)) (m.at_upd (some_ne (s.subF _ _ g2))) (hv.mono (fun _ _ h => h) (fun _ _ h => h) fun a ha => ⟨ha, fun w hw => ?_⟩) fun a ha => ?_⟩
        · rw [upd_ne (fun z => by
            have := (hT a ha).2.1
            rw [z, s.subF _ _ g2] at this; cases this)]; exact hw
        · obtain ⟨q1, q2, q3, q4⟩ := hT a ha
          exact ⟨q1, q2, q3, q4.upd fun z => by rw [z, s.subF _ _ g2] at q2; cases q2⟩
      | ex c6 ρ6 M6 => rw [er] at z; exact z.elim
      | st => rw [er] at z; exact z.elim
  · exact z.elim
/-- while -/
theorem s_while (w : XS P nm cl n X sc W) {e : Expr} {body : List Stmt} {pos : Pos} {rt : Sl → Mem → VL.R Bool} {rb : Sl → Mem → RS} (ht : PT X e (tT X.K cl W rt)) (hb : PSs X body (tS X.K cl W rb)) :
    PS X (.While e body [] pos) (tS X.K cl W fun ρ M => whileW rt rb ρ M) := by
  refine PS.weak (ps_while w.own ht hb) fun D σ H z => ?_
  obtain ⟨ι, F, O, ρ, M, r, z⟩ := z
  have hz : ∃ m, ResS X.K cl W ι F O σ H (whileL rt rb m ρ M) D := by
    dsimp only at z
    unfold whileW at z
    split at z
    · exact ⟨_, z⟩
    · exact z.elim
  obtain ⟨m0, hz⟩ := hz
  refine ⟨fun m σ H => ∃ ι F O ρ M, SRO X.K ι F O ρ M σ H ∧ ResS X.K cl W ι F O σ H (whileL rt rb m ρ M) D, ⟨m0, ι, F, O, ρ, M, r, hz⟩, ?_⟩
  rintro m σ H ⟨ι, F, O, ρ, M, r, hz⟩
  cases m with
  | zero => exact hz.elim
  | succ m =>
    simp only [whileL] at hz
    refine ⟨ι, F, ρ, M, ⟨O, r⟩, (ResS.to r hz).imp fun t M1 ι1 F1 H1 s1 f1 m1 h => ?_⟩
    have r1 := r.step s1 f1 m1
    cases t with
    | false => exact h ι1 F1 O H1 σ StS.refl r1
    | true =>
      rw [if_pos rfl] at h
      dsimp only
      rw [if_pos rfl]
      refine ⟨fun σ' H' => ∃ ι F O ρ M, SRO X.K ι F O ρ M σ' H' ∧ ResS X.K cl W ι F O σ' H' (whileL rt rb m ρ M) D, fun σ' H' hN => ⟨m, by omega, hN⟩, ι1, F1, O, ρ, M1, r1, ?_⟩
      cases er : rb ρ M1 with
      | nx ρ6 M6 =>
        rw [er] at h
        exact fun ι6 F6 O6 H6 σ6 s6 r6 => ⟨ι6, F6, O6, ρ6, M6, r6, ResS.later h s6⟩
      | ct ρ6 M6 =>
        rw [er] at h
        exact fun ι6 F6 O6 H6 σ6 s6 r6 => ⟨ι6, F6, O6, ρ6, M6, r6, ResS.later h s6⟩
      | bk ρ6 M6 => rw [er] at h; exact h
      | rt d6 M6 => rw [er] at h; exact h
      | ex c6 ρ6 M6 => rw [er] at h; exact h
      | st => rw [er] at h; exact h
theorem sw_sub {e o ek : Expr} {tp : Pos} {l : Nat} {env : Env} : swapsWith e (some (.Subscript o ek tp)) l env = pure false := by
  cases e <;> rfl
/-- d[k] = v -/
theorem s_dset (w : XW P nm cl n X sc W) {i : Nat} {x : Str} {k v : Ex} {ek ev : Expr} {np tp pos : Pos} (h1 : X.N[i]? = some x) (h2 : visB sc x = true) (hk : mE X.N nm k sc ek = true) (hv : mE X.N nm v sc ev = true) :
    PS X (.Assign [.Subscript (.Name x np) ek tp] ev pos) (tS X.K cl W (evS (cfgN P n) (.dset i k v))) := by
  have hu := w.hu
  refine PS.weak (ps_dput (by omega) (s_var w h1 h2) (sE k w hk).1 (sE v w hv).1 sw_sub) fun D0 σ H z => ?_
  obtain ⟨ι, F, O, ρ, M, r, z⟩ := z
  unfold evS at z
  split at z
  · rename_i m t kvs hi
    split at z
    · rename_i hm
      subst hm
      refine ⟨ι, F, ρ, M, ⟨O, r⟩, (ResS.to r z).imp fun d M1 ι1 F1 H1 s1 f1 m1 q1 vv hvv => ?_⟩
      have r1 := r.step s1 f1 m1
      obtain ⟨a, l, hσ, _, _, _⟩ := r1.dict hi
      refine ⟨_, hσ, ι1, F1, ρ, M1, ⟨O, r1⟩, (ResS.to r1 q1).imp fun y M2 ι2 F2 H2 s2 f2 m2 q2 yv hy => ?_⟩
      have r2 := r1.step s2 f2 m2
      split at q2
      · rename_i ok
        obtain ⟨lt, ok⟩ := ok
        obtain ⟨a2, l2, hσ2, at2, rk, _⟩ := r2.dict hi
        rw [hσ] at hσ2; cases hσ2
        have hl := repK_len rk
        rcases key_kind hy ok with ⟨rfl, kk, rfl, rfl⟩ | ⟨rfl, kk, b, rfl, rfl, hb⟩
        · obtain ⟨ks, hks, rfl⟩ := at2.k
          rw [List.length_map] at hl
          have put := repK_put keyD_inj (k := kk) (s2.rep hvv) rk
          obtain ⟨st, r3⟩ := r2.dchange (o := .dK (putK ks kk vv)) hi hσ ⟨_, upd_same, rfl⟩ put
          exact ⟨a, _, rfl, DPut.k hks (by rw [hl]; exact lt), q2 _ _ _ _ _ st r3⟩
        · obtain ⟨ks, hks, rfl⟩ := at2.t
          rw [List.length_map] at hl
          have put := repK_put tkeyD_inj (k := kk) (s2.rep hvv) rk
          obtain ⟨st, r3⟩ := r2.dchange (o := .dT (putK ks kk vv)) hi hσ ⟨_, upd_same, rfl⟩ put
          exact ⟨a, _, rfl, DPut.t hks (f2.tup hb) (by rw [hl]; exact lt), q2 _ _ _ _ _ st r3⟩
      · exact q2.elim
    · exact z.elim
  · exact z.elim
theorem erase_last {α : Type} : ∀ xs : List α, xs.eraseIdx (xs.length - 1) = xs.dropLast
  | [] => rfl
  | [_] => rfl
  | x :: y :: r => by
    have := erase_last (y :: r)
    simpa using this
theorem s_pop (w : XW P nm cl n X sc W) {i : Nat} {ps : List Ex} {p : Pt} {k : Option Ex} {tg o : Expr} {es : List Expr} {ap cp pos : Pos} (htg : (match tg with | .Name _ _ => true | .Tuple _ _ _ => true | _ => false) = true) (hg : PG X tg (tG X.K p)) (hl : (ap.endLine == cp.line) = true)
    (ho : mPth X.N nm sc i ps.reverse o = true) (he : mPop X.N nm sc k es = true) :
    PS X (.Assign [tg] (.Call (.Attribute o "pop" ap) es [] cp) pos) (tS X.K cl W (evS (cfgN P n) (.pop p i ps k))) := by
  have hpath := s_path w ho
  rw [List.reverse_reverse] at hpath
  have h1 : (assignEach [tg] X.env).map (·.2) = [assign tg X.env] := by cases tg <;> first | rfl | cases htg
  have hw : swappedStores [tg] (.Call (.Attribute o "pop" ap) es [] cp) X.env = pure none := by cases tg <;> first | rfl | cases htg
  have common : ∀ {ι : List Addr} {F : Hp} {O : Addr → Prop} {ρ : Sl} {M : Mem} {σ : L2.St} {H : Hp} {D0 : Ends}, SRO X.K ι F O ρ M σ H → ResS X.K cl W ι F O σ H (evS (cfgN P n) (.pop p i ps k) ρ M) D0 →
      ∃ m d ks M1 v a, ρ[i]? = some (.ow m d) ∧ evEs (cfgN P n) ps ρ M = .ok ks M1 ∧ σ[i]? = some (some v) ∧ PathO ι H v ks (.ref a) ∧ dnP m ks ≠ .z ∧ (∃ ds, getP d ks = some (.lst ds)) ∧ ResS X.K cl W ι F O σ H ((evE (cfgN P n) (k.getD (.lit (.int (-1)))) ρ M1).to ρ fun x M2 => (match getP d ks, x with
        | some (.lst ds), .int j => (match L2.ixN ds.length j with
          | some n => (match ds[n]? with
            | some y => if y.isLD = false ∧ -(2 ^ 63) ≤ j ∧ j < 2 ^ 63 then (match bindP p y (ρ.set i (.ow m (setP d ks (.lst (ds.eraseIdx n))))) with
              | some ρ' => .nx ρ' M2
              | none => .st) else .st
            | none => .st)
          | none => .st)
        | _, _ => .st)) D0 := fun {ι F O ρ M σ H D0} r z => by
    unfold evS at z
    split at z
    · rename_i m d hi
      cases e1 : evEs (cfgN P n) ps ρ M with
      | ex _ _ => rw [e1] at z; exact z.elim
      | st => rw [e1] at z; exact z.elim
      | ok ks M1 =>
        rw [e1, R.nox_ok, R.to_ok] at z
        split at z
        · rename_i hb
          obtain ⟨v, a, vs0, ds0, ev, p0, g0, hg0, hm0⟩ := r.path hi hb
          exact ⟨m, d, ks, M1, v, a, hi, rfl, ev, p0, hm0, ⟨_, hg0⟩, z⟩
        · exact z.elim
    · exact z.elim
  cases k with
  | none =>
    cases es with
    | cons _ _ => cases he
    | nil =>
      have hp := pe_bm0 (X := X) (cpos := cp) (apos := ap) PySem.F.plainAttrs_list PySem.F.slot_list_pop PySem.F.type_list_pop mt_pop hpath (mPth_base ho) hl
      refine PS.weak (ps_asg hp hg (swt_no rfl) hw h1) fun D σ H z => ?_
      obtain ⟨ι, F, O, ρ, M, r, z⟩ := z
      obtain ⟨m, d, ks, M1, v, a, hi, e1, ev, p0, hm0, ⟨ds0, hg0⟩, z⟩ := common r z
      refine ⟨ι, F, ρ, M, ks, M1, v, .ref a, ⟨O, r⟩, e1, ev, p0, fun ι1 F1 H1 s1 f1 m1 => ?_⟩
      have r1 := r.step s1 f1 m1
      have z := ResS.later (σ1 := σ) z s1.toS
      simp only [Option.getD_none, evE, R.to_ok] at z
      obtain ⟨vs, j, n', y, ej, g1, _, _, en, ey, q⟩ := s_popT (k := .lit .non) (st := .Pass pos) (t := tNilE) (M1 := M1) (ps := ps) r1 hi hm0 ev (p0.step s1) z
      cases ej
      refine ⟨.inl ⟨rfl, vs, .inl (.inl g1)⟩, a, vs, y, rfl, rfl, g1, ?_, ?_⟩
      · unfold L2.ixN at en
        rw [if_neg (by decide)] at en
        split at en
        · cases en; rw [show vs.length - 1 = (-1 + (vs.length : Int)).toNat by omega]; exact ey
        · cases en
      · have : vs.eraseIdx n' = vs.dropLast := by
          unfold L2.ixN at en
          rw [if_neg (by decide)] at en
          split at en
          · cases en
            rw [show (-1 + (vs.length : Int)).toNat = vs.length - 1 by omega, erase_last]
          · cases en
        rw [this] at q
        exact q
  | some x =>
    cases es with
    | nil => cases he
    | cons ea es =>
      cases es with
      | cons _ _ => cases he
      | nil =>
        have he : (nst ea && mE X.N nm x sc ea) = true := he
        rw [Bool.and_eq_true] at he
        have hp := pe_bm (X := X) (cpos := cp) (apos := ap) PySem.F.plainAttrs_list PySem.F.slot_list_pop PySem.F.type_list_pop mt_popAt hpath (pa_cons (sE x w he.2).1 pa_nil (star_ok he.1)) (mPth_base ho) (by rw [star_ok he.1]; rfl) hl (star_ok he.1) rfl
        refine PS.weak (ps_asg hp hg (swt_no rfl) hw h1) fun D σ H z => ?_
        obtain ⟨ι, F, O, ρ, M, r, z⟩ := z
        obtain ⟨m, d, ks, M1, v, a, hi, e1, ev, p0, hm0, ⟨ds0, hg0⟩, z⟩ := common r z
        refine ⟨ι, F, ρ, M, ks, M1, v, .ref a, ⟨O, r⟩, e1, ev, p0, fun ι1 F1 H1 s1 f1 m1 => ?_⟩
        have r1 := r.step s1 f1 m1
        obtain ⟨vs1, T1, g1, _, _⟩ := r1.there hi hg0 hm0 ev (p0.step s1)
        have z := ResS.later (σ1 := σ) z s1.toS
        simp only [Option.getD_some] at z
        refine ⟨.inl ⟨rfl, vs1, .inl (.inl g1)⟩, ι1, F1, ρ, M1, ⟨O, r1⟩, ?_⟩
        cases e3 : evE (cfgN P n) x ρ M1 with
        | st => rw [e3] at z; exact z
        | ex c M2 => rw [e3] at z; exact fun ι2 F2 H2 s2 f2 m2 => z _ _ _ _ _ s2.toS (r1.step s2 f2 m2)
        | ok u M2 =>
          rw [e3, R.to_ok] at z
          intro ι2 F2 H2 s2 f2 m2 w' hw'
          have z := ResS.later (σ1 := σ) z s2.toS
          obtain ⟨vs, j, n', y, ej, g1, hb1, hb2, en, ey, q⟩ := s_popT (k := .lit .non) (st := .Pass pos) (t := tNilE) (M1 := M1) (ps := ps) (r1.step s2 f2 m2) hi hm0 ev ((p0.step s1).step s2) z
          subst ej
          rw [hw'.getInt]
          exact ⟨a, vs, j, n', y, rfl, rfl, g1, hb1, hb2, (ixN_seq en).1, ey, q⟩
theorem s_popU {i : Nat} {ps : List Ex} {ι : List Addr} {F : Hp} {O : Addr → Prop} {ρ : Sl} {M2 : Mem} {σ : L2.St} {H : Hp} {D0 : Ends} {m : Md} {d x : D} {ks : List D} {v : V} {a : Addr} (r : SRO X.K ι F O ρ M2 σ H) (hi : ρ[i]? = some (.ow m d)) (hm : dnP m ks ≠ .z) (hv : σ[i]? = some (some v)) (hp : PathO ι H v ks (.ref a))
    (z : ResS X.K cl W ι F O σ H (match getP d ks, x with
        | some (.lst ds), .int j => (match L2.ixN ds.length j with
          | some n => if -(2 ^ 63) ≤ j ∧ j < 2 ^ 63 then .nx (ρ.set i (.ow m (setP d ks (.lst (ds.eraseIdx n))))) M2 else .st
          | none => .st)
        | _, _ => .st) D0) :
    ∃ vs j n y, x = .int j ∧ H a = some (.lst vs) ∧ -(2 ^ 63) ≤ j ∧ j < 2 ^ 63 ∧ L2.ixN vs.length j = some n ∧ vs[n]? = some y ∧ D0.nx σ (upd H a (.lst (vs.eraseIdx n))) := by
  split at z
  · rename_i ds j hg
    obtain ⟨vs, T0, g1, g2, g3⟩ := r.there hi hg hm hv hp
    split at z
    · rename_i n' en
      split at z
      · rename_i hc
        obtain ⟨h1, h2⟩ := hc
        have hlt : n' < vs.length := by
          have := (ixN_seq en).2.1
          rw [g2.length]; exact this
        refine ⟨vs, j, n', vs[n'], rfl, g1, h1, h2, by rw [g2.length]; exact en, List.getElem?_eq_getElem hlt, ?_⟩
        have ch := r.change (ds' := ds.eraseIdx n') (vs' := vs.eraseIdx n') (U := fun _ => False) (m' := dnP m ks) hi hg hm hv hp ⟨fun _ h => h.elim⟩ hm (fun _ => rfl) fun vs1 T1 q1 q2 q3 => by
          rw [g1] at q1; cases q1
          exact ⟨T1, q2.erase n', fun _ h => .inl h⟩
        have em : (if ks.isEmpty = true then dnP m ks else m) = m := by
          cases ks <;> rfl
        rw [em] at ch
        exact z _ _ _ _ _ ((StS.refl.or (T := fun _ => False) fun _ h => h.elim).trans ch.1) ch.2
      · exact z.elim
    · exact z.elim
  · exact z.elim
theorem s_popS (w : XW P nm cl n X sc W) {i : Nat} {ps : List Ex} {k : Option Ex} {o : Expr} {es : List Expr} {ap cp pos : Pos} (hl : (ap.endLine == cp.line) = true)
    (ho : mPth X.N nm sc i ps.reverse o = true) (he : mPop X.N nm sc k es = true) :
    PS X (.Expr (.Call (.Attribute o "pop" ap) es [] cp) pos) (tS X.K cl W (evS (cfgN P n) (.popS i ps k))) := by
  have hpath := s_path w ho
  rw [List.reverse_reverse] at hpath
  have common : ∀ {ι : List Addr} {F : Hp} {O : Addr → Prop} {ρ : Sl} {M : Mem} {σ : L2.St} {H : Hp} {D0 : Ends}, SRO X.K ι F O ρ M σ H → ResS X.K cl W ι F O σ H (evS (cfgN P n) (.popS i ps k) ρ M) D0 →
      ∃ m d ks M1 v a, ρ[i]? = some (.ow m d) ∧ evEs (cfgN P n) ps ρ M = .ok ks M1 ∧ σ[i]? = some (some v) ∧ PathO ι H v ks (.ref a) ∧ dnP m ks ≠ .z ∧ (∃ ds, getP d ks = some (.lst ds)) ∧ ResS X.K cl W ι F O σ H ((evE (cfgN P n) (k.getD (.lit (.int (-1)))) ρ M1).to ρ fun x M2 => (match getP d ks, x with
        | some (.lst ds), .int j => (match L2.ixN ds.length j with
          | some n => if -(2 ^ 63) ≤ j ∧ j < 2 ^ 63 then .nx (ρ.set i (.ow m (setP d ks (.lst (ds.eraseIdx n))))) M2 else .st
          | none => .st)
        | _, _ => .st)) D0 := fun {ι F O ρ M σ H D0} r z => by
    unfold evS at z
    split at z
    · rename_i m d hi
      cases e1 : evEs (cfgN P n) ps ρ M with
      | ex _ _ => rw [e1] at z; exact z.elim
      | st => rw [e1] at z; exact z.elim
      | ok ks M1 =>
        rw [e1, R.nox_ok, R.to_ok] at z
        split at z
        · rename_i hb
          obtain ⟨v, a, vs0, ds0, ev, p0, g0, hg0, hm0⟩ := r.path hi hb
          exact ⟨m, d, ks, M1, v, a, hi, rfl, ev, p0, hm0, ⟨_, hg0⟩, z⟩
        · exact z.elim
    · exact z.elim
  cases k with
  | none =>
    cases es with
    | cons _ _ => cases he
    | nil =>
      have hp := pe_bm0 (X := X) (cpos := cp) (apos := ap) PySem.F.plainAttrs_list PySem.F.slot_list_pop PySem.F.type_list_pop mt_pop hpath (mPth_base ho) hl
      refine PS.weak (ps_expr hp rfl) fun D σ H z => ?_
      obtain ⟨ι, F, O, ρ, M, r, z⟩ := z
      obtain ⟨m, d, ks, M1, v, a, hi, e1, ev, p0, hm0, ⟨ds0, hg0⟩, z⟩ := common r z
      refine ⟨ι, F, ρ, M, ks, M1, v, .ref a, ⟨O, r⟩, e1, ev, p0, fun ι1 F1 H1 s1 f1 m1 => ?_⟩
      have r1 := r.step s1 f1 m1
      have z := ResS.later (σ1 := σ) z s1.toS
      simp only [Option.getD_none, evE, R.to_ok] at z
      obtain ⟨vs, j, n', y, ej, g1, _, _, en, ey, q⟩ := s_popU (ps := ps) r1 hi hm0 ev (p0.step s1) z
      cases ej
      refine ⟨.inl ⟨rfl, vs, .inl (.inl g1)⟩, a, vs, y, rfl, rfl, g1, ?_, ?_⟩
      · unfold L2.ixN at en
        rw [if_neg (by decide)] at en
        split at en
        · cases en; rw [show vs.length - 1 = (-1 + (vs.length : Int)).toNat by omega]; exact ey
        · cases en
      · have : vs.eraseIdx n' = vs.dropLast := by
          unfold L2.ixN at en
          rw [if_neg (by decide)] at en
          split at en
          · cases en
            rw [show (-1 + (vs.length : Int)).toNat = vs.length - 1 by omega, erase_last]
          · cases en
        rw [this] at q
        exact q
  | some x =>
    cases es with
    | nil => cases he
    | cons ea es =>
      cases es with
      | cons _ _ => cases he
      | nil =>
        have he : (nst ea && mE X.N nm x sc ea) = true := he
        rw [Bool.and_eq_true] at he
        have hp := pe_bm (X := X) (cpos := cp) (apos := ap) PySem.F.plainAttrs_list PySem.F.slot_list_pop PySem.F.type_list_pop mt_popAt hpath (pa_cons (sE x w he.2).1 pa_nil (star_ok he.1)) (mPth_base ho) (by rw [star_ok he.1]; rfl) hl (star_ok he.1) rfl
        refine PS.weak (ps_expr hp rfl) fun D σ H z => ?_
        obtain ⟨ι, F, O, ρ, M, r, z⟩ := z
        obtain ⟨m, d, ks, M1, v, a, hi, e1, ev, p0, hm0, ⟨ds0, hg0⟩, z⟩ := common r z
        refine ⟨ι, F, ρ, M, ks, M1, v, .ref a, ⟨O, r⟩, e1, ev, p0, fun ι1 F1 H1 s1 f1 m1 => ?_⟩
        have r1 := r.step s1 f1 m1
        obtain ⟨vs1, T1, g1, _, _⟩ := r1.there hi hg0 hm0 ev (p0.step s1)
        have z := ResS.later (σ1 := σ) z s1.toS
        simp only [Option.getD_some] at z
        refine ⟨.inl ⟨rfl, vs1, .inl (.inl g1)⟩, ι1, F1, ρ, M1, ⟨O, r1⟩, ?_⟩
        cases e3 : evE (cfgN P n) x ρ M1 with
        | st => rw [e3] at z; exact z
        | ex c M2 => rw [e3] at z; exact fun ι2 F2 H2 s2 f2 m2 => z _ _ _ _ _ s2.toS (r1.step s2 f2 m2)
        | ok u M2 =>
          rw [e3, R.to_ok] at z
          intro ι2 F2 H2 s2 f2 m2 w' hw'
          have z := ResS.later (σ1 := σ) z s2.toS
          obtain ⟨vs, j, n', y, ej, g1, hb1, hb2, en, ey, q⟩ := s_popU (ps := ps) (r1.step s2 f2 m2) hi hm0 ev ((p0.step s1).step s2) z
          subst ej
          rw [hw'.getInt]
          exact ⟨a, vs, j, n', y, rfl, rfl, g1, hb1, hb2, (ixN_seq en).1, ey, q⟩
/-- f(..).clear() -/
theorem s_clr (w : XW P nm cl n X sc W) {a : Ax} {o : Expr} {ap cp pos : Pos} (hl : (ap.endLine == cp.line) = true) (hc : callE o = true) (ho : mA X.N nm a sc o = true) :
    PS X (.Expr (.Call (.Attribute o "clear" ap) [] [] cp) pos) (tS X.K cl W (evS (cfgN P n) (.clr a))) := by
  have hp := pe_bm0 (X := X) (cpos := cp) (apos := ap) PySem.F.plainAttrs_list PySem.F.slot_list_clear PySem.F.type_list_clear mt_clear (sA a w ho) (callE_base hc) hl
  refine PS.weak (ps_expr hp rfl) fun D σ H z => ?_
  obtain ⟨ι, F, O, ρ, M, r, z⟩ := z
  unfold evS at z
  refine ⟨ι, F, ρ, M, ⟨O, r⟩, ?_⟩
  cases e1 : evA (cfgN P n) a ρ M with
  | st => rw [e1] at z; exact z
  | ex c M1 => rw [e1] at z; exact fun ι1 F1 H1 s1 f1 m1 => z _ _ _ _ _ s1.toS (r.step s1 f1 m1)
  | ok d M1 =>
    rw [e1, R.to_ok] at z
    intro ι1 F1 H1 s1 f1 m1 v T hd hT
    have r1 := r.step s1 f1 m1
    split at z
    · exact z.elim
    · rename_i md ds hne
      cases hd with
      | fz rr e => rcases e with e | e; exact (hne e).elim; cases e
      | lst k1 k2 k3 k4 k5 k6 =>
        rename_i a' vs T'
        obtain ⟨g1, g2, g3, g4⟩ := hT.at_ a' k3
        have no : ¬ O a' := fun z => (r.own a' z).2.2.ne g3
        refine ⟨.inl ⟨rfl, vs, .inl (.inl k2)⟩, a', vs, rfl, rfl, k2, ?_⟩
        have hH : H a' = none := g3
        refine z ι1 F1 O _ σ ⟨s1.pre, s1.subF, fun b l nb _ e => s1.newF b l nb e, fun b hb => .inr hb, fun b u hu nb _ => ?_, fun b hb => ?_⟩ (r1.updD g1 g2 no)
        · rw [upd_ne (ne_of_none hu hH)]; exact s1.keep b u hu nb
        · rw [upd_ne (fun z => hb (by rw [z]; exact hH))]; exact s1.live b hb
    · exact z.elim
theorem swap_compG {ee : Expr} {gs : List Comprehension} {scope : Scope} {lpos tp pos : Pos} {x : Str} {i : Nat} {t : TE} (w : XW P nm cl n X sc W) (h1 : X.N[i]? = some x) (l : L2.Loc X.env.scope x) (f : X.fn x = true ∨ X.env.scope.names.lookup x = some .local)
    (g1 : ∀ pos, PE X (.ListComp ee gs scope pos) t)
    (g2 : ∀ {i : Nat} {y : Str} {py pos spos : Pos}, X.N[i]? = some y → X.env.scope.names.lookup y = some .local → swapsWith (.ListComp ee gs scope pos) (some (.Name y py)) spos.line X.env = pure true → PS X (.Assign [.Name y py] (.ListComp ee gs scope pos) spos) (tAsg t (gName i))) :
    PS X (.Assign [.Name x tp] (.ListComp ee gs scope lpos) pos) (tAsg t (gName i)) := by
  cases hsw : (X.env.blockKind == .function && X.env.kindOf x == some .local && tp.line == lpos.line && !(scope.names.any fun (n, k) => n == x && (k == .local || k == .cell))) with
  | true =>
    have hl : X.env.scope.names.lookup x = some .local := by
      simp only [Bool.and_eq_true] at hsw
      have := hsw.1.1.2
      simpa [Env.kindOf] using this
    exact g2 h1 hl (by
      show pure _ = pure true
      rw [← hsw]
      rfl)
  | false =>
    exact ps_set w.nd h1 l (g1 lpos) (by
      show pure _ = pure false
      rw [← hsw]
      rfl) f
theorem swap_comp {ee tg iter : Expr} {ifs : List Expr} {scope : Scope} {lpos tp pos : Pos} {x : Str} {i : Nat} {t : TE} (w : XW P nm cl n X sc W) (h1 : X.N[i]? = some x) (l : L2.Loc X.env.scope x) (f : X.fn x = true ∨ X.env.scope.names.lookup x = some .local)
    (g1 : ∀ pos, PE X (.ListComp ee [⟨tg, iter, ifs, 0⟩] scope pos) t)
    (g2 : ∀ {i : Nat} {y : Str} {py pos spos : Pos}, X.N[i]? = some y → X.env.scope.names.lookup y = some .local → swapsWith (.ListComp ee [⟨tg, iter, ifs, 0⟩] scope pos) (some (.Name y py)) spos.line X.env = pure true → PS X (.Assign [.Name y py] (.ListComp ee [⟨tg, iter, ifs, 0⟩] scope pos) spos) (tAsg t (gName i))) :
    PS X (.Assign [.Name x tp] (.ListComp ee [⟨tg, iter, ifs, 0⟩] scope lpos) pos) (tAsg t (gName i)) := swap_compG w h1 l f g1 g2
theorem assign_named {i : Nat} {x : Str} {ev : Expr} {tp pos : Pos} (w : XW P nm cl n X sc W) (h1 : X.N[i]? = some x) (h2 : locB sc x = true) : ∀ {e : Ex}, mE X.N nm e sc ev = true →
    ∃ t, PS X (.Assign [.Name x tp] ev pos) (tAsg t (gName i)) ∧ (∀ σ H Q, tE X.K cl W (evE (cfgN P n) e) σ H Q → t σ H Q)
  | .bor a, h => by
    unfold mE at h
    obtain ⟨t, q1, q2⟩ := assign_named w h1 h2 h
    refine ⟨t, q1, fun σ H Q z => q2 σ H Q (tE_bor ?_)⟩
    obtain ⟨ι, F, ρ, M, r, z⟩ := z
    simp only [evE] at z
    exact ⟨ι, F, ρ, M, r, z⟩
  | e, h => by
    obtain ⟨l, f⟩ := w.loc h2
    by_cases hc : compB ev = true
    · cases e <;> try (exfalso; unfold mE at h; cases ev <;> first | (cases h; done) | (cases hc; done))
      rotate_right
      · rename_i elt p k args conds own p2 k2 args2 conds2 own2
        have h0 := h
        unfold mE at h
        split at h
        · rename_i q eq
          obtain ⟨lpos, rfl⟩ := c2Of_eq eq
          obtain ⟨t, g1, g2, g3⟩ := comp2Of w (pos := lpos) (sE elt) (fun y hy => by
            intro X sc W e w h
            exact sE y w h) (fun y hy => by
            intro X sc W e w h
            exact sE y w h) (fun a ha => by
            intro X sc W e w h
            exact sE a w h) (sEs args) (fun a ha => by
            intro X sc W e w h
            exact sE a w h) (sEs args2) h0
          exact ⟨t, swap_compG w h1 l f g1 g2, fun σ H Q z => g3 σ H Q (tL_of z)⟩
        · cases h
      · rename_i elt p k args conds own
        have h0 := h
        unfold mE at h
        split at h
        · split at h
          · rename_i ee scope lpos _ tg iter ifs
            obtain ⟨t, g1, g2, g3⟩ := compOf w (pos := lpos) (sE elt) (fun y hy => by
              intro X sc W e w h
              exact sE y w h) (fun a ha => by
              intro X sc W e w h
              exact sE a w h) (sEs args) h0
            exact ⟨t, swap_comp w h1 l f g1 g2, fun σ H Q z => g3 σ H Q (tL_of z)⟩
          · cases h
        · cases h
      · rename_i a
        unfold mE at h
        obtain ⟨t, q1, q2⟩ := assign_named w h1 h2 h
        refine ⟨t, q1, fun σ H Q z => q2 σ H Q (tE_bor ?_)⟩
        obtain ⟨ι, F, ρ, M, r, z⟩ := z
        simp only [evE] at z
        exact ⟨ι, F, ρ, M, r, z⟩
    · have hc : compB ev = false := by simpa using hc
      exact ⟨_, ps_set w.nd h1 l (sE e w h).1 (sw_no hc) f, fun _ _ _ z => z⟩
/-- a thing of one's own is stored in a name -/
theorem own_named {i : Nat} {x : Str} {ev : Expr} {tp pos : Pos} (w : XW P nm cl n X sc W) (h1 : X.N[i]? = some x) (h2 : locB sc x = true) : ∀ {e : Ax}, mA X.N nm e sc ev = true →
    ∃ t, PS X (.Assign [.Name x tp] ev pos) (tAsg t (gName i)) ∧ ∀ σ H Q, tO X.K cl W (evA (cfgN P n) e) σ H Q → t σ H Q
  | .bor a, h => by
    unfold mA at h
    obtain ⟨t, q1, q2⟩ := own_named w h1 h2 h
    refine ⟨t, q1, fun σ H Q z => q2 σ H Q (tO_bor ?_)⟩
    obtain ⟨ι, F, ρ, M, r, z⟩ := z
    simp only [evA] at z
    exact ⟨ι, F, ρ, M, r, z⟩
  | .dn a, h => by
    unfold mA at h
    obtain ⟨t, q1, q2⟩ := own_named w h1 h2 h
    refine ⟨t, q1, fun σ H Q z => q2 σ H Q (tO_dn ?_)⟩
    obtain ⟨ι, F, ρ, M, r, z⟩ := z
    simp only [evA] at z
    exact ⟨ι, F, ρ, M, r, z⟩
  | .e a, h => by
    unfold mA at h
    obtain ⟨t, q1, q2⟩ := assign_named (tp := tp) (pos := pos) w h1 h2 h
    refine ⟨t, q1, fun σ H Q z => q2 σ H Q (tO_e ?_)⟩
    obtain ⟨ι, F, ρ, M, r, z⟩ := z
    simp only [evA] at z
    exact ⟨ι, F, ρ, M, r, z⟩
  | .comp elt p k args conds own, h => by
    obtain ⟨l, f⟩ := w.loc h2
    have h0 := h
    unfold mA at h
    split at h
    · split at h
      · rename_i ee scope lpos _ tg iter ifs
        obtain ⟨t, g1, g2, g3⟩ := compOfA w (pos := lpos) (sA elt) h0
        exact ⟨t, swap_comp w h1 l f g1 g2, g3⟩
      · cases h
    · cases h
  | .lst as, h => by
    obtain ⟨l, f⟩ := w.loc h2
    have hc : compB ev = false := by unfold mA at h; cases ev <;> first | rfl | cases h
    exact ⟨_, ps_set w.nd h1 l (sA _ w h) (sw_no hc) f, fun _ _ _ z => z⟩
  | .dict0 _, h => by
    obtain ⟨l, f⟩ := w.loc h2
    have hc : compB ev = false := by unfold mA at h; cases ev <;> first | rfl | cases h
    exact ⟨_, ps_set w.nd h1 l (sA _ w h) (sw_no hc) f, fun _ _ _ z => z⟩
  | .ix a k, h => by
    obtain ⟨l, f⟩ := w.loc h2
    have hc : compB ev = false := by unfold mA at h; cases ev <;> first | rfl | cases h
    exact ⟨_, ps_set w.nd h1 l (sA _ w h) (sw_no hc) f, fun _ _ _ z => z⟩
  | .call g xs, h => by
    obtain ⟨l, f⟩ := w.loc h2
    have hc : compB ev = false := by unfold mA mE at h; cases ev <;> first | rfl | cases h
    exact ⟨_, ps_set w.nd h1 l (sA _ w h) (sw_no hc) f, fun _ _ _ z => z⟩
  | .fr x, h => by
    obtain ⟨l, f⟩ := w.loc h2
    have hc : compB ev = false := by
      unfold mA at h
      rw [Bool.and_eq_true] at h
      obtain ⟨h, hf⟩ := h
      cases x <;> try (cases hf; done)
      all_goals (unfold mE at h; cases ev <;> first | rfl | cases h)
    exact ⟨_, ps_set w.nd h1 l (sA _ w h) (sw_no hc) f, fun _ _ _ z => z⟩
end
end VL
/-! VH: the clauses of a try -/
namespace VL
open PySem PySem.Spec PyProof.Rows L2
section
variable {P : Prog} {nm : Nms} {cl : Nat → Value} {n : Nat} {X : Cx} {sc : Scope} {W : WXX}
/-- what comes of a clause's expression: d, whatever is laid meanwhile; the error's name holds a -/
def tHv (K : PySem.W.Frag) (a : Addr) (ni : Option Nat) (d : D) : TE := fun σ H Q => (∀ i, ni = some i → σ[i]? = some (some (.ref a))) ∧ ∃ ι F M, FSub F H ∧ MemRep K ι F M H ∧
  ∀ F' H' v, Stp ι F H ι F' H' → FSub F' H' → MemRep K ι F' M H' → Rep K ι F' v d → Q v H'
def tHvs (K : PySem.W.Frag) (a : Addr) (ni : Option Nat) (ds : List D) : TA := fun σ H Q => (∀ i, ni = some i → σ[i]? = some (some (.ref a))) ∧ ∃ ι F M, FSub F H ∧ MemRep K ι F M H ∧
  ∀ F' H' vs, Stp ι F H ι F' H' → FSub F' H' → MemRep K ι F' M H' → Reps K ι F' vs ds → Q vs H'
theorem lit_flat {d : D} {k : Const} (h : litB d k = true) (K : PySem.W.Frag) (ι : List Addr) (F : Hp) : ∃ v, Rep K ι F v d := by
  unfold litB at h
  split at h
  · exact ⟨_, .non⟩
  · exact ⟨_, .bl _⟩
  · exact ⟨_, .int _⟩
  · exact ⟨_, .str _⟩
  · cases h
theorem hvEs_len {sub : Nat → Nat → Option Bool} {k : Nat} : ∀ {hs : List Hx} {ds : List D}, hvEs sub k hs = some ds → ds.length = hs.length
  | [], ds, h => by simp only [hvEs, Option.some.injEq] at h; subst h; rfl
  | h :: hs, ds, e => by
    simp only [hvEs] at e
    split at e
    · rename_i d ds' e1 e2
      cases e
      simp [hvEs_len e2]
    · cases e
theorem h_lit {a : Addr} {ni : Option Nat} {d : D} {k : Const} {j pos} (h : litB d k = true) : PE X (.Constant k j pos) (tHv X.K a ni d) := by
  have fin : ∀ {v : V} {σ : L2.St} {H : Hp} {Q : VK}, (∀ ι F, Rep X.K ι F v d) → tHv X.K a ni d σ H Q → Q v H := fun hv ⟨_, ι, F, M, f, m, q⟩ => q F _ _ Stp.refl f m (hv _ _)
  unfold litB at h
  split at h
  · exact PE.weak pe_non fun σ H Q q => fin (fun _ _ => .non) q
  · rename_i x y
    have e : x = y := by simpa using h
    subst e
    exact PE.weak pe_bl fun σ H Q q => fin (fun _ _ => .bl _) q
  · have e := of_decide_eq_true h
    subst e
    exact PE.weak pe_int fun σ H Q q => fin (fun _ _ => .int _) q
  · have e := of_decide_eq_true h
    subst e
    exact PE.weak pe_str fun σ H Q q => fin (fun _ _ => .str _) q
  · cases h
/-- where a clause stands: the names as around it, the error at hand -/
structure XH (P : Prog) (nm : Nms) (cl : Nat → Value) (n : Nat) (X : Cx) (sc : Scope) (a D : Addr) (oe : Obj) (pn : List (Addr × Obj)) : Prop where
  W : ∃ W, XW P nm cl n X sc W
  z : Zc (.ref D) none oe
  v : ∃ vs, oe.data = .fields vs
  c : L2.ExcC X.K D
  ve : PySem.W.kitOne X.K (.ref D) (.type "ValueError") = some true
section
variable {a D0 : Addr} {oe : Obj} {pn : List (Addr × Obj)}
theorem h_isi (w : XH P nm cl n X sc a D0 oe pn) {x z y : Str} {p1 p2 p3 pos : Pos} {ni : Nat} {cV : V} {cv : Value} {b : Bool} (hx : x = "isinstance") (gx : glB sc x = true) (hz : X.N[ni]? = some z) (vz : visB sc z = true)
    (hy : PE (X.suite a ((a, oe) :: pn)) (.Name y p3) (fun σ H Q => Q cV H)) (hc : ∀ u, RelV cV u → u = cv) (hk : PySem.W.kitOne X.K (.ref D0) cv = some b) :
    PE (X.suite a ((a, oe) :: pn)) (.Call (.Name x p1) [.Name z p2, .Name y p3] [] pos) (tHv X.K a (some ni) (.bl b)) := by
  obtain ⟨W, xw⟩ := w.W
  obtain ⟨g, o⟩ := xw.gl gx
  obtain ⟨vv, oz⟩ := xw.vis vz
  obtain ⟨a1, a2, a3⟩ := okN_d o
  obtain ⟨b1, b2, b3⟩ := okN_d oz
  subst hx
  refine PE.weak (pe_callB (X := X.suite a ((a, oe) :: pn)) (call_isE w.c w.z w.v) g (xw.fx.blt _ (by simp [bltNames])) (by rfl) (pa_cons (pe_var hz vv b1 b2) (pa_cons hy pa_nil))) fun σ H Q q => ?_
  obtain ⟨hs, ι, F, M, f, m, q⟩ := q
  refine ⟨.ref a, hs ni rfl, ⟨cV, cv, b, rfl, hc, hk, ?_⟩⟩
  exact q F H _ Stp.refl f m (.bl b)
theorem h_cls (w : XH P nm cl n X sc a D0 oe pn) {c : Nat} {y : Str} {p : Pos} {C : Addr} (h1 : nm.excs[c]? = some y) (h2 : glB sc y = true) (h3 : cl c = .ref C) : PE (X.suite a ((a, oe) :: pn)) (.Name y p) (fun σ H Q => Q (.ref C) H) := by
  obtain ⟨W, xw⟩ := w.W
  obtain ⟨g, o⟩ := xw.gl h2
  obtain ⟨a1, a2, a3⟩ := okN_d o
  obtain ⟨C', e1, e2, _⟩ := xw.fx.excs c y h1
  rw [h3] at e1
  cases e1
  exact pe_glob (X := X.suite a ((a, oe) :: pn)) g e2 rfl a1
theorem h_ve (w : XH P nm cl n X sc a D0 oe pn) {y : Str} {p : Pos} (hy : y = "ValueError") (h2 : glB sc y = true) : PE (X.suite a ((a, oe) :: pn)) (.Name y p) (fun σ H Q => Q (.ty "ValueError") H) := by
  obtain ⟨W, xw⟩ := w.W
  obtain ⟨g, o⟩ := xw.gl h2
  obtain ⟨a1, a2, a3⟩ := okN_d o
  subst hy
  exact pe_bltn (X := X.suite a ((a, oe) :: pn)) g (xw.fx.blt _ (by simp [bltNames])) (by rfl) rfl a3 a1
mutual
theorem sH {k : Nat} (hcl : cl k = .ref D0) (w : XH P nm cl n X sc a D0 oe pn) {no : Option Str} {ni : Option Nat} (hn : ∀ z, no = some z → ∃ i, ni = some i ∧ X.N[i]? = some z) : ∀ (h : Hx) {e : Expr} {d : D}, mH nm sc no h e = true → hvE P.sub k h = some d →
    PE (X.suite a ((a, oe) :: pn)) e (tHv X.K a ni d)
  | .lit d, e, d', hm, hv => by
    simp only [hvE, Option.some.injEq] at hv
    subst hv
    unfold mH at hm
    split at hm
    · exact h_lit (X := X.suite a ((a, oe) :: pn)) hm
    · cases hm
  | .tup hs, e, d', hm, hv => by
    simp only [hvE, Option.map_eq_some_iff] at hv
    obtain ⟨ds, hv, rfl⟩ := hv
    unfold mH at hm
    split at hm
    · simp only [Bool.and_eq_true, decide_eq_true_eq] at hm
      refine PE.weak (pe_tup (X := X.suite a ((a, oe) :: pn)) (sHs hcl w hn hs hm.1 hv)) fun σ H Q q => ?_
      obtain ⟨hσ, ι, F, M, f, m, q⟩ := q
      refine ⟨hσ, ι, F, M, f, m, fun F' H' vs s1 f1 m1 r => ⟨?_, fun p hp => ?_⟩⟩
      · rw [r.length, hvEs_len hv]; exact small1000' hm.2
      · obtain ⟨s2, f2, m2⟩ := new_ok (o := .tup vs) f1 m1 hp
        exact q _ _ _ (s1.trans s2) f2 m2 (rep_new_tup f1 hp r)
    · cases hm
  | .isi c, e, d', hm, hv => by
    simp only [hvE, Option.map_eq_some_iff] at hv
    obtain ⟨b, hv, rfl⟩ := hv
    obtain ⟨W, xw⟩ := w.W
    obtain ⟨D', C, e1, e2, e3, e4, e5, e6⟩ := xw.fx.subs k c b hv
    rw [hcl] at e1
    cases e1
    unfold mH at hm
    split at hm
    · split at hm
      · simp only [Bool.and_eq_true, decide_eq_true_eq, List.isEmpty_iff] at hm
        obtain ⟨⟨⟨⟨⟨⟨h1, h2⟩, h3⟩, h4⟩, h5⟩, h6⟩, h7⟩ := hm
        subst h7
        obtain ⟨i, hi, hN⟩ := hn _ h3
        subst hi
        exact h_isi w h1 h2 hN h4 (h_cls w h5 h6 e2) (fun u r => r) e5
      · cases hm
    · cases hm
  | .isv, e, d', hm, hv => by
    simp only [hvE, Option.some.injEq] at hv
    subst hv
    unfold mH at hm
    split at hm
    · split at hm
      · simp only [Bool.and_eq_true, decide_eq_true_eq, List.isEmpty_iff] at hm
        obtain ⟨⟨⟨⟨⟨⟨h1, h2⟩, h3⟩, h4⟩, h5⟩, h6⟩, h7⟩ := hm
        subst h7
        obtain ⟨i, hi, hN⟩ := hn _ h3
        subst hi
        exact h_isi w h1 h2 hN h4 (h_ve w h5 h6) (fun u r => r) (w.ve)
      · cases hm
    · cases hm
  | .and hs, e, d', hm, hv => by
    simp only [hvE] at hv
    unfold mH at hm
    split at hm
    · rename_i op es pos
      simp only [Bool.and_eq_true] at hm
      have ho : op = .And := by
        cases op with
        | And => rfl
        | Or => exact absurd hm.1 (by simp)
      subst ho
      exact sHa hcl w hn hs hm.2 hv
    · cases hm
  | .or hs, e, d', hm, hv => by
    simp only [hvE] at hv
    unfold mH at hm
    split at hm
    · rename_i op es pos
      simp only [Bool.and_eq_true] at hm
      have ho : op = .Or := by
        cases op with
        | Or => rfl
        | And => exact absurd hm.1 (by simp)
      subst ho
      exact sHo hcl w hn hs hm.2 hv
    · cases hm
  | .not h, e, d', hm, hv => by
    simp only [hvE] at hv
    split at hv
    · rename_i b e1
      cases hv
      unfold mH at hm
      split at hm
      · rename_i op ea pos
        simp only [Bool.and_eq_true] at hm
        have ho : op = .Not := by
          cases op <;> first | rfl | exact absurd hm.1 (by simp)
        subst ho
        refine PE.weak (pe_not (X := X.suite a ((a, oe) :: pn)) (sH hcl w hn h hm.2 e1)) fun σ H Q q => ?_
        obtain ⟨hσ, ι, F, M, f, m, q⟩ := q
        refine ⟨hσ, ι, F, M, f, m, fun F' H' v s1 f1 m1 r => ?_⟩
        cases r
        exact ⟨b, rfl, q F' H' _ s1 f1 m1 (.bl _)⟩
      · cases hm
    · cases hv
theorem sHs {k : Nat} (hcl : cl k = .ref D0) (w : XH P nm cl n X sc a D0 oe pn) {no : Option Str} {ni : Option Nat} (hn : ∀ z, no = some z → ∃ i, ni = some i ∧ X.N[i]? = some z) : ∀ (hs : List Hx) {es : List Expr} {ds : List D}, mHs nm sc no hs es = true → hvEs P.sub k hs = some ds →
    PA (X.suite a ((a, oe) :: pn)) es (tHvs X.K a ni ds)
  | [], es, ds, hm, hv => by
    simp only [hvEs, Option.some.injEq] at hv
    subst hv
    simp only [mHs, List.isEmpty_iff] at hm
    subst hm
    exact PA.weak pa_nil fun σ H Q ⟨hσ, ι, F, M, f, m, q⟩ => q F H _ Stp.refl f m .nil
  | h :: hs, es, ds, hm, hv => by
    cases es with
    | nil => simp [mHs] at hm
    | cons e es =>
      simp only [mHs, Bool.and_eq_true] at hm
      simp only [hvEs] at hv
      split at hv
      · rename_i d ds' e1 e2
        cases hv
        refine PA.weak (pa_cons (sH hcl w hn h hm.1.2 e1) (sHs hcl w hn hs hm.2 e2) (star_ok hm.1.1)) fun σ H Q q => ?_
        obtain ⟨hσ, ι, F, M, f, m, q⟩ := q
        refine ⟨hσ, ι, F, M, f, m, fun F1 H1 v s1 f1 m1 r => ⟨hσ, ι, F1, M, f1, m1, fun F2 H2 vs s2 f2 m2 rs => ?_⟩⟩
        exact q F2 H2 _ (s1.trans s2) f2 m2 (.cons (s2.rep r) rs)
      · cases hv
theorem sHa {k : Nat} (hcl : cl k = .ref D0) (w : XH P nm cl n X sc a D0 oe pn) {no : Option Str} {ni : Option Nat} (hn : ∀ z, no = some z → ∃ i, ni = some i ∧ X.N[i]? = some z) : ∀ (hs : List Hx) {es : List Expr} {d : D} {pos : Pos}, mHs nm sc no hs es = true → hvAnd P.sub k hs = some d →
    PE (X.suite a ((a, oe) :: pn)) (.BoolOp .And es pos) (tHv X.K a ni d)
  | [], es, d, pos, hm, hv => by simp [hvAnd] at hv
  | h :: hs, es, d, pos, hm, hv => by
    cases es with
    | nil => simp [mHs] at hm
    | cons e es =>
      simp only [mHs, Bool.and_eq_true] at hm
      unfold hvAnd at hv
      split at hv
      · rename_i b e1
        have h1 := sH hcl w hn h hm.1.2 e1
        cases hs with
        | nil =>
          simp only [mHs, List.isEmpty_iff] at hm
          obtain ⟨_, rfl⟩ := hm
          cases hv
          exact pe_one h1
        | cons h' hs =>
          cases es with
          | nil => simp [mHs] at hm
          | cons e' es =>
            dsimp only at hv
            cases b with
            | true =>
              rw [if_pos rfl] at hv
              refine PE.weak (pe_and h1 (sHa hcl w hn (h' :: hs) hm.2 hv)) fun σ H Q q => ?_
              obtain ⟨hσ, ι, F, M, f, m, q⟩ := q
              refine ⟨hσ, ι, F, M, f, m, fun F1 H1 v s1 f1 m1 r => ?_⟩
              cases r
              refine ⟨true, rfl, ?_⟩
              rw [if_pos rfl]
              exact ⟨hσ, ι, F1, M, f1, m1, fun F2 H2 v s2 f2 m2 r => q F2 H2 v (s1.trans s2) f2 m2 r⟩
            | false =>
              rw [if_neg (by simp)] at hv
              cases hv
              refine PE.weak (pe_and (tb := fun _ _ _ => False) h1 ⟨fun _ _ _ _ _ _ z => z.elim⟩) fun σ H Q q => ?_
              obtain ⟨hσ, ι, F, M, f, m, q⟩ := q
              refine ⟨hσ, ι, F, M, f, m, fun F1 H1 v s1 f1 m1 r => ?_⟩
              cases r
              refine ⟨false, rfl, ?_⟩
              rw [if_neg (by simp)]
              exact q F1 H1 _ s1 f1 m1 (.bl false)
      · cases hv
theorem sHo {k : Nat} (hcl : cl k = .ref D0) (w : XH P nm cl n X sc a D0 oe pn) {no : Option Str} {ni : Option Nat} (hn : ∀ z, no = some z → ∃ i, ni = some i ∧ X.N[i]? = some z) : ∀ (hs : List Hx) {es : List Expr} {d : D} {pos : Pos}, mHs nm sc no hs es = true → hvOr P.sub k hs = some d →
    PE (X.suite a ((a, oe) :: pn)) (.BoolOp .Or es pos) (tHv X.K a ni d)
  | [], es, d, pos, hm, hv => by simp [hvOr] at hv
  | h :: hs, es, d, pos, hm, hv => by
    cases es with
    | nil => simp [mHs] at hm
    | cons e es =>
      simp only [mHs, Bool.and_eq_true] at hm
      unfold hvOr at hv
      split at hv
      · rename_i b e1
        have h1 := sH hcl w hn h hm.1.2 e1
        cases hs with
        | nil =>
          simp only [mHs, List.isEmpty_iff] at hm
          obtain ⟨_, rfl⟩ := hm
          cases hv
          exact pe_one h1
        | cons h' hs =>
          cases es with
          | nil => simp [mHs] at hm
          | cons e' es =>
            dsimp only at hv
            cases b with
            | false =>
              rw [if_neg (by simp)] at hv
              refine PE.weak (pe_or h1 (sHo hcl w hn (h' :: hs) hm.2 hv)) fun σ H Q q => ?_
              obtain ⟨hσ, ι, F, M, f, m, q⟩ := q
              refine ⟨hσ, ι, F, M, f, m, fun F1 H1 v s1 f1 m1 r => ?_⟩
              cases r
              refine ⟨false, rfl, ?_⟩
              rw [if_neg (by simp)]
              exact ⟨hσ, ι, F1, M, f1, m1, fun F2 H2 v s2 f2 m2 r => q F2 H2 v (s1.trans s2) f2 m2 r⟩
            | true =>
              rw [if_pos rfl] at hv
              cases hv
              refine PE.weak (pe_or (tb := fun _ _ _ => False) h1 ⟨fun _ _ _ _ _ _ z => z.elim⟩) fun σ H Q q => ?_
              obtain ⟨hσ, ι, F, M, f, m, q⟩ := q
              refine ⟨hσ, ι, F, M, f, m, fun F1 H1 v s1 f1 m1 r => ?_⟩
              cases r
              refine ⟨true, rfl, ?_⟩
              rw [if_pos rfl]
              exact q F1 H1 _ s1 f1 m1 (.bl true)
      · cases hv
end
end
/-- a clause's reading -/
def tHd (K : PySem.W.Frag) (P : Prog) (cl : Nat → Value) (h : Hd) : Addr → Value → Option Addr → TS := fun a cls d D σ H => ∃ k Dc b dv, cls = cl k ∧ cl k = .ref Dc ∧ d = none ∧ P.sub k h.c = some b ∧ hvE P.sub k h.b = some dv ∧ (∃ σ', σ = setN σ' h.i (some (.ref a))) ∧
  ∃ ι F M, FSub F H ∧ MemRep K ι F M H ∧ ∀ F' H' v, Stp ι F H ι F' H' → FSub F' H' → MemRep K ι F' M H' → Rep K ι F' v dv → D.rt v H'
theorem s_hd (xw : XW P nm cl n X sc W) {h : Hd} {no : Option Str} {e : Expr} {rp : Pos} (hlen : ∀ i, h.i = some i → i < X.N.length) (hn : ∀ z, no = some z → ∃ i, h.i = some i ∧ X.N[i]? = some z) (hm : mH nm sc no h.b e = true) (a : Addr) (oe : Obj) (cls : Value) (d : Option Addr) (pn : List (Addr × Obj))
    (hz : Zc cls d oe) (hv : ∃ vs, oe.data = .fields vs) : PSs (X.suite a ((a, oe) :: pn)) [.Return (some e) rp] (tHd X.K P cl h a cls d) := by
  refine ⟨fun pins s σ H D I q => ?_⟩
  obtain ⟨k, Dc, b, dv, rfl, e1, rfl, e2, e3, ⟨σ', hσ⟩, q⟩ := q
  obtain ⟨D1, C, f1, f2, f3, f4, f5, f6⟩ := xw.fx.subs k h.c b e2
  rw [e1] at f1 hz
  cases f1
  have xh : XH P nm cl n X sc a Dc oe pn := ⟨⟨W, xw⟩, hz, hv, f3, f6⟩
  have pe := sH e1 xh hn h.b hm e3
  refine (pss_cons (u := tNext) (ps_ret pe) pss_nil).run pins s σ H D I ⟨fun i hi => ?_, q⟩
  subst hσ
  have hl := I.len
  rw [hi] at hl ⊢
  show (σ'.set i (some (.ref a)))[i]? = _
  have hl : (σ'.set i (some (V.ref a))).length = X.N.length := hl
  rw [List.length_set] at hl
  rw [List.getElem?_set_self (by rw [hl]; exact hlen i hi)]
def clsOf (K : PySem.W.Frag) (P : Prog) (cl : Nat → Value) (h : Hd) : Cls1 := ⟨cl h.c, h.i, tHd K P cl h⟩
theorem s_hds (xw : XW P nm cl n X sc W) : ∀ {hs : List Hd} {l : List ExceptHandler}, mHd X.N nm sc hs l = true → HdsN X l (hs.map (clsOf X.K P cl))
  | [], l, h => by
    simp only [mHd, List.isEmpty_iff] at h
    subst h
    exact .nil
  | h :: hs, l, hm => by
    unfold mHd at hm
    split at hm
    · rename_i x p1 o ss p2 r
      simp only [Bool.and_eq_true, decide_eq_true_eq] at hm
      obtain ⟨⟨⟨⟨h1, h2⟩, h3⟩, h4⟩, h5⟩ := hm
      obtain ⟨g, ok⟩ := xw.gl h2
      obtain ⟨a1, a2, a3⟩ := okN_d ok
      obtain ⟨C, e1, e2, _⟩ := xw.fx.excs _ x h1
      have hc : Names X x (clsOf X.K P cl h).c := ⟨g, a1, .inl (by rw [e2]; show some (Value.ref C) = some (cl h.c); rw [e1])⟩
      have ih := s_hds xw h5
      split at h4
      · rename_i e rp
        split at h3
        · rename_i hi
          refine .plain hc hi (fun a oe cls d pn hz hv => s_hd xw (no := none) (fun i h' => by rw [hi] at h'; cases h') (fun z hz => by cases hz) h4 a oe cls d pn hz hv) ih
        · rename_i n0 i hi
          simp only [Bool.and_eq_true, decide_eq_true_eq] at h3
          refine .named (i := i) hc hi h3.1 ?_ (fun a oe cls d pn hz hv => s_hd xw (no := some n0) (fun j h' => by rw [hi] at h'; cases h'; exact (List.getElem?_eq_some_iff.mp h3.1).1) (fun z hz => by cases hz; exact ⟨i, hi, h3.1⟩) h4 a oe cls d pn hz hv) ih
          have := xw.names _ _ h3.2 (by decide)
          simpa [Env.kindOf] using this
        · cases h3
      · cases h4
    · cases hm
theorem s_wHds {F : Hp} {ι : List Addr} {O : Addr → Prop} {σ0 : L2.St} {H0 : Hp} {k : Nat} {D : Ends} (hfx : ∀ (k c : Nat) b, P.sub k c = some b → ∃ D C, cl k = .ref D ∧ cl c = .ref C ∧ L2.ExcC X.K D ∧ PySem.W.exmOne X.K (.ref D) (.ref C) = some b ∧ PySem.W.kitOne X.K (.ref D) (.ref C) = some b ∧
    PySem.W.kitOne X.K (.ref D) (.type "ValueError") = some true) {ρ : Sl} {M : Mem} {ι1 : List Addr} {F1 : Hp} {O1 : Addr → Prop} {H1 : Hp} {σ1 : L2.St} (s1 : StS ι F O H0 ι1 F1 O1 H1) (r1 : SRO X.K ι1 F1 O1 ρ M σ1 H1) : ∀ {hs : List Hd} {l : List ExceptHandler}, mHd X.N nm sc hs l = true → ResS X.K cl W ι F O σ0 H0 (hdR P.sub k hs ρ M) D → 
    wHds X.K W D (hs.map (clsOf X.K P cl)) (cl k) none σ1 H1
  | [], l, _, z => z _ _ _ _ _ s1 r1
  | h :: hs, l, hm, z => by
    have hm' : ∃ r, mHd X.N nm sc hs r = true := by
      unfold mHd at hm
      split at hm
      · rename_i x p1 o ss p2 r
        simp only [Bool.and_eq_true, decide_eq_true_eq] at hm
        exact ⟨r, hm.2⟩
      · cases hm
    obtain ⟨r, hr⟩ := hm'
    unfold hdR at z
    split at z
    · rename_i e1
      split at z
      · rename_i dv e2
        obtain ⟨Dk, C, f1, f2, f3, f4, f5, f6⟩ := hfx k h.c true e1
        refine ⟨true, by show PySem.W.exmOne X.K (cl k) (cl h.c) = some true; rw [f1, f2]; exact f4, fun _ a ha => ?_, (fun q => by cases q)⟩
        exact ⟨k, Dk, true, dv, rfl, f1, rfl, e1, e2, ⟨σ1, rfl⟩, ι1, F1, M, r1.sub, r1.mem, fun F' H' v s2 f2' m2 rv => z ι1 F' O1 H' v (fun _ => False) (s1.trans s2.toS) f2' m2 (.fz rv (.inl rfl)) fun _ h => h.elim⟩
      · exact z.elim
    · rename_i e1
      obtain ⟨Dk, C, f1, f2, f3, f4, f5, f6⟩ := hfx k h.c false e1
      refine ⟨false, by show PySem.W.exmOne X.K (cl k) (cl h.c) = some false; rw [f1, f2]; exact f4, (fun q => by cases q), fun _ => s_wHds hfx s1 r1 hr z⟩
    · exact z.elim
theorem s_try (xs : XS P nm cl n X sc W) {hs : List Hd} {h0 : ExceptHandler} {hds : List ExceptHandler} {body : List Stmt} {pos : Pos} {rb : Sl → Mem → RS} (hm : mHd X.N nm sc hs (h0 :: hds) = true)
    (hb : ∀ (W : WXX) (pn : List (Addr × Obj)) (xe : Value → Shared → Prop), XS P nm cl n (X.tr pn xe) sc W → PSs (X.tr pn xe) body (tS X.K cl W rb)) :
    PS X (.Try body (h0 :: hds) [] [] pos) (tS X.K cl W fun ρ M => tryR P.sub hs (rb ρ M)) := by
  refine PS.weak (ps_try_hds xs.stk xs.frm xs.w.nd xs.w.tk (tb := fun W => tS X.K cl W rb) (fun W pn xe tk po => hb W pn xe ⟨⟨tk, xs.w.calm, xs.w.nd, xs.w.room, xs.w.names, xs.w.free, xs.w.fnc, xs.w.fx⟩, po, xs.stk, xs.frm⟩) (s_hds xs.w hm)) fun D σ H z => ?_
  obtain ⟨ι, F, O, ρ, M, r, z⟩ := z
  refine ⟨ι, F, O, ρ, M, r, ?_⟩
  dsimp only at z
  cases e : rb ρ M with
  | nx ρ' M' => rw [e] at z; exact z
  | rt d M' => rw [e] at z; exact z
  | bk ρ' M' => rw [e] at z; exact z
  | ct ρ' M' => rw [e] at z; exact z
  | st => rw [e] at z; exact z
  | ex k ρ' M' =>
    rw [e] at z
    exact fun ι1 F1 O1 H1 σ1 s1 r1 => s_wHds xs.w.fx.subs s1 r1 hm z
end
end VL
/-! VA: the theorem of statements; a def's body -/
namespace VL
open PySem PySem.Spec PyProof.Rows L2
section
variable {P : Prog} {nm : Nms} {cl : Nat → Value} {n : Nat} {X : Cx} {sc : Scope} {W : WXX}
theorem to_bind {α β : Type} {r : VL.R α} {ρ : Sl} {f : α → Mem → VL.R β} {g : β → Mem → RS} : (r.bind f).to ρ g = r.to ρ fun a M => (f a M).to ρ g := by cases r <;> rfl
mutual
theorem sS : ∀ (s : Sm) {X : Cx} {sc : Scope} {W : WXX} {st : Stmt}, XS P nm cl n X sc W → mS X.N nm sc s st = true → PS X st (tS X.K cl W (evS (cfgN P n) s))
  | .asg p e, X, sc, W, st, w, h => by
    unfold mS at h
    split at h
    · split at h
      · rename_i ev spos _ tg
        simp only [Bool.and_eq_true] at h
        obtain ⟨⟨h1, h2⟩, h3⟩ := h
        cases p with
        | v i =>
          unfold mP at h1
          split at h1
          · simp only [Bool.and_eq_true, decide_eq_true_eq] at h1
            obtain ⟨t, q1, q2⟩ := assign_named (pos := spos) w.w h1.1 h1.2 h2
            exact PS.cong (s_asgT q1 q2) fun ρ M => by unfold evS; rfl
          · cases h1
        | t ps =>
          have hg := s_pat w.w h1
          unfold mP at h1
          split at h1
          · simp only [Bool.and_eq_true, Bool.not_eq_true'] at h3
            exact PS.cong (s_asgP (ps_asg (sE e w.w h2).1 hg (swt_no h3.2) (sws_no h3.1)) fun _ _ _ z => z) fun ρ M => by unfold evS; rfl
          · cases h1
      · cases h
    · cases h
  | .own i e, X, sc, W, st, w, h => by
    unfold mS at h
    split at h
    · split at h
      · rename_i ev spos _ tg
        simp only [Bool.and_eq_true] at h
        obtain ⟨h1, h2⟩ := h
        unfold mP at h1
        split at h1
        · simp only [Bool.and_eq_true, decide_eq_true_eq] at h1
          obtain ⟨t, q1, q2⟩ := own_named (pos := spos) w.w h1.1 h1.2 h2
          exact PS.cong (s_ownT q1 q2) fun ρ M => by unfold evS; rfl
        · cases h1
      · cases h
    · cases h
  | .dset i k v, X, sc, W, st, w, h => by
    unfold mS at h
    split at h
    · split at h
      · split at h
        · rename_i o ek _
          simp only [Bool.and_eq_true] at h
          obtain ⟨⟨⟨⟨h0, h1⟩, hp⟩, hk⟩, hv⟩ := h
          unfold mE at h1
          split at h1
          · simp only [Bool.and_eq_true, decide_eq_true_eq] at h1
            exact s_dset w.w h1.1 h1.2 hk hv
          · cases h1
        · cases h
      · cases h
    · cases h
  | .mut i ps mu el, X, sc, W, st, w, h => by
    unfold mS at h
    split at h
    · rename_i k
      split at h
      · split at h
        · split at h
          · simp only [Bool.and_eq_true, Bool.not_eq_true'] at h
            exact s_setk w.w h.1.1.1 h.1.1.2 h.1.2 h.2
          · cases h
        · cases h
      · cases h
    · rename_i hk
      split at h
      · split at h
        · split at h
          · rename_i fn es kws cp _ o m ap
            simp only [Bool.and_eq_true, List.isEmpty_iff] at h
            obtain ⟨⟨⟨h1, h2⟩, h3⟩, h4⟩ := h
            subst h1
            unfold mMu at h4
            split at h4
            · simp only [Bool.and_eq_true, decide_eq_true_eq] at h4
              obtain ⟨⟨h5, h6⟩, h7⟩ := h4
              subst h5
              exact s_app w.w h2 h6 h3 h7
            · simp only [Bool.and_eq_true, decide_eq_true_eq] at h4
              obtain ⟨h5, h6⟩ := h4
              subst h5
              split at h6
              · exact s_mu0 w.w (id := "list.clear") (T := "list") (g := fun _ => []) (g' := fun _ => []) h2 h3 (fun to hto => pe_bm0 PySem.F.plainAttrs_list PySem.F.slot_list_clear PySem.F.type_list_clear mt_clear hto (mPth_base h3) h2)
                  (fun l xs H Q e q => ⟨l, xs, rfl, rfl, e, q⟩) (fun _ _ _ => rfl) (fun _ e => by cases e) rfl fun _ _ _ _ _ _ _ _ => .nil
              · cases h6
            · simp only [Bool.and_eq_true, decide_eq_true_eq] at h4
              obtain ⟨h5, h6⟩ := h4
              subst h5
              split at h6
              · exact s_mu0 w.w (id := "list.reverse") (T := "list") (g := List.reverse) (g' := List.reverse) h2 h3 (fun to hto => pe_bm0 PySem.F.plainAttrs_list PySem.F.slot_list_reverse PySem.F.type_list_reverse mt_reverse hto (mPth_base h3) h2)
                  (fun l xs H Q e q => ⟨l, xs, rfl, rfl, e, q⟩) (fun _ _ _ => rfl) (fun _ e => by cases e) rfl fun _ _ _ _ _ _ _ r => r.reverse
              · cases h6
            · cases h4
          · cases h
        · cases h
      · cases h
  | .pop p i ps k, X, sc, W, st, w, h => by
    unfold mS at h
    split at h
    · split at h
      · split at h
        · split at h
          · simp only [Bool.and_eq_true, decide_eq_true_eq, List.isEmpty_iff] at h
            obtain ⟨⟨⟨⟨⟨⟨h1, h2⟩, h3⟩, h4⟩, h5⟩, h6⟩, h7⟩ := h
            subst h3; subst h5
            exact s_pop w.w h2 (s_pat w.w h1) h4 h6 h7
          · cases h
        · cases h
      · cases h
    · cases h
  | .popS i ps k, X, sc, W, st, w, h => by
    unfold mS at h
    split at h
    · split at h
      · split at h
        · simp only [Bool.and_eq_true, decide_eq_true_eq, List.isEmpty_iff] at h
          obtain ⟨⟨⟨⟨h3, h4⟩, h5⟩, h6⟩, h7⟩ := h
          subst h3; subst h5
          exact s_popS w.w h4 h6 h7
        · cases h
      · cases h
    · cases h
  | .clr a, X, sc, W, st, w, h => by
    unfold mS at h
    split at h
    · split at h
      · split at h
        · simp only [Bool.and_eq_true, decide_eq_true_eq, List.isEmpty_iff] at h
          obtain ⟨⟨⟨⟨⟨h1, h2⟩, h3⟩, h4⟩, h5⟩, h6⟩ := h
          subst h1; subst h2; subst h4
          exact s_clr w.w h3 h5 h6
        · cases h
      · cases h
    · cases h
  | .forK p i body, X, sc, W, st, w, h => by
    unfold mS at h
    split at h
    · simp only [Bool.and_eq_true, List.isEmpty_iff] at h
      obtain ⟨⟨⟨h1, h2⟩, h3⟩, h4⟩ := h
      subst h1
      exact PS.cong (s_forK w h4 (s_pat w.w h2) (sSs body w h3)) fun ρ M => by unfold evS; rfl
    · cases h
  | .aug i o e, X, sc, W, st, w, h => by
    unfold mS at h
    split at h
    · simp only [Bool.and_eq_true] at h
      obtain ⟨⟨h1, h2⟩, h3⟩ := h
      unfold mP at h1
      split at h1
      · simp only [Bool.and_eq_true, decide_eq_true_eq] at h1
        rw [mOp_eq h2]
        refine PS.cong (s_aug w.w h1.1 h1.2 (sE e w.w h3).1) fun ρ M => ?_
        unfold evS
        rfl
      · cases h1
    · cases h
  | .expr e, X, sc, W, st, w, h => by
    unfold mS at h
    split at h
    · simp only [Bool.and_eq_true, Bool.not_eq_true'] at h
      exact PS.cong (s_expr (sE e w.w h.1).1 h.2) fun ρ M => by unfold evS; rfl
    · cases h
  | .ret e, X, sc, W, st, w, h => by
    unfold mS at h
    split at h
    · split at h
      · exact PS.cong (s_ret (sE e w.w h).1) fun ρ M => by unfold evS; rfl
      · cases h
    · cases h
  | .retN, X, sc, W, st, w, h => by
    unfold mS at h
    split at h
    · simp only [Option.isNone_iff_eq_none] at h
      subst h
      exact PS.cong s_retN fun ρ M => by unfold evS; rfl
    · cases h
  | .retA a, X, sc, W, st, w, h => by
    unfold mS at h
    split at h
    · split at h
      · exact PS.cong (s_retA (sA a w.w h)) fun ρ M => by unfold evS; rfl
      · cases h
    · cases h
  | .retV i, X, sc, W, st, w, h => by
    unfold mS at h
    split at h
    · split at h
      · unfold mE at h
        split at h
        · simp only [Bool.and_eq_true, decide_eq_true_eq] at h
          exact PS.cong (s_retV (s_var w.w h.1 h.2)) fun ρ M => by unfold evS; rfl
        · cases h
      · cases h
    · cases h
  | .ifs q a b, X, sc, W, st, w, h => by
    unfold mS at h
    split at h
    · simp only [Bool.and_eq_true] at h
      obtain ⟨⟨⟨h1, h2⟩, h3⟩, h4⟩ := h
      exact PS.cong (s_if ((sE q w.w h2).2 h1) (sSs a w h3) (sSs b w h4)) fun ρ M => by unfold evS; rfl
    · cases h
  | .for_ p k args body, X, sc, W, st, w, h => by
    unfold mS at h
    split at h
    · simp only [Bool.and_eq_true, List.isEmpty_iff] at h
      obtain ⟨⟨⟨h1, h2⟩, h3⟩, h4⟩ := h
      subst h1
      obtain ⟨hs, ri, hi, hr⟩ := walk_of w.w h4
      refine PS.cong (s_for w hs hi (s_pat w.w h2) (sSs body w h3)) fun ρ M => ?_
      unfold evS
      rw [hr, to_bind] <;> rfl
    · cases h
  | .while_ q body, X, sc, W, st, w, h => by
    unfold mS at h
    split at h
    · simp only [Bool.and_eq_true, List.isEmpty_iff] at h
      obtain ⟨⟨⟨h1, h2⟩, h3⟩, h4⟩ := h
      subst h1
      exact PS.cong (s_while w ((sE q w.w h3).2 h2) (sSs body w h4)) fun ρ M => by unfold evS; rfl
    · cases h
  | .brk, X, sc, W, st, w, h => by
    unfold mS at h
    split at h
    · exact PS.cong s_brk fun ρ M => by unfold evS; rfl
    · cases h
  | .cnt, X, sc, W, st, w, h => by
    unfold mS at h
    split at h
    · exact PS.cong s_cnt fun ρ M => by unfold evS; rfl
    · cases h
  | .pass, X, sc, W, st, w, h => by
    unfold mS at h
    split at h
    · exact PS.cong s_pass fun ρ M => by unfold evS; rfl
    · cases h
  | .raise k, X, sc, W, st, w, h => by
    unfold mS at h
    split at h
    · simp only [Bool.and_eq_true, Option.isNone_iff_eq_none] at h
      obtain ⟨h1, h2⟩ := h
      subst h1
      split at h2
      · split at h2
        · split at h2
          · simp only [Bool.and_eq_true, decide_eq_true_eq, List.isEmpty_iff] at h2
            obtain ⟨⟨h3, h4⟩, h5⟩ := h2
            subst h5
            exact PS.cong (s_raise w.w h3 h4) fun ρ M => by unfold evS; rfl
          · cases h2
        · cases h2
      · cases h2
    · cases h
  | .freeze i, X, sc, W, st, w, h => by unfold mS at h; cases h
  | .kill is, X, sc, W, st, w, h => by unfold mS at h; cases h
  | .try_ body hs, X, sc, W, st, w, h => by
    unfold mS at h
    split at h
    · rename_i sb hds oe fe pos
      simp only [Bool.and_eq_true, Bool.not_eq_true', List.isEmpty_iff] at h
      obtain ⟨⟨⟨⟨h1, h2⟩, h3⟩, h4⟩, h5⟩ := h
      subst h1
      subst h2
      cases hds with
      | nil => cases h3
      | cons h0 hds =>
        exact PS.cong (s_try w h5 fun W' pn xe w' => sSs body w' h4) fun ρ M => by unfold evS; rfl
    · cases h
theorem sSs : ∀ (l : List Sm) {X : Cx} {sc : Scope} {W : WXX} {st : List Stmt}, XS P nm cl n X sc W → mSs X.N nm sc l st = true → PSs X st (tS X.K cl W (evSs (cfgN P n) l))
  | [], X, sc, W, st, w, h => by
    unfold mSs at h
    simp only [List.isEmpty_iff] at h
    subst h
    refine PSs.weak pss_nil fun D σ H z => ?_
    obtain ⟨ι, F, O, ρ, M, r, z⟩ := z
    unfold evSs at z
    exact z ι F O H σ StS.refl r
  | s :: r, X, sc, W, st, w, h => by
    unfold mSs at h
    split at h
    · rename_i hg
      have ih := sSs r w h
      refine PSs.weak ih fun D σ H z => ?_
      obtain ⟨ι, F, O, ρ, M, sr, z⟩ := z
      unfold evSs at z
      cases s <;> try (cases hg; done)
      · rename_i i
        unfold evS at z
        split at z
        · rename_i m d e
          obtain ⟨F', O', st', r'⟩ := sr.freeze e
          exact ⟨ι, F', O', _, M, r', ResS.later z st'⟩
        · exact ⟨ι, F, O, ρ, M, sr, z⟩
        · exact z.elim
      · rename_i is
        unfold evS at z
        exact ⟨ι, F, O, _, M, sr.killed is, z⟩
    · split at h
      · rename_i st1 l1
        simp only [Bool.and_eq_true] at h
        refine PSs.weak (pss_cons (sS s w h.1) (sSs r w h.2)) fun D σ H z => ?_
        obtain ⟨ι, F, O, ρ, M, sr, z⟩ := z
        unfold evSs at z
        exact ⟨ι, F, O, ρ, M, sr, ResS.seq z⟩
      · cases h
end
end
end VL
/-! VB: defs, and the law -/
namespace VL
open PySem PySem.Spec PyProof.Rows L2
def scB (N ps : List Str) (sc : Scope) : Bool :=
  (match sc.kind with | .function => true | _ => false) && (!sc.isCoroutine && (!sc.isGenerator && (decide N.Nodup && (decide (N.take ps.length = ps) && (ps.all (fun x => locB sc x) && sc.names.all (fun y => match y.2 with | .free => false | _ => true))))))
theorem scB_ok {N ps : List Str} {sc : Scope} (h : scB N ps sc = true) : FnScope N ps sc := by
  unfold scB at h
  simp only [Bool.and_eq_true, Bool.not_eq_true', decide_eq_true_eq, List.all_eq_true] at h
  obtain ⟨h1, h2, h3, h4, h5, h6, h7⟩ := h
  refine ⟨?_, h2, h3, h4, h5, fun x hx => ?_, fun y hy e => ?_⟩
  · split at h1
    · assumption
    · cases h1
  · have := h6 x hx
    unfold locB at this
    simpa using this
  · have := h7 y hy
    rw [e] at this
    cases this
def mFn (nm : Nms) (N ps : List Str) (F : Fn) (d : He.DefD) : Bool := scB N ps d.scope && (decide (ps.length = F.np) && (decide (N.length = F.ns) && (d.dfl.isEmpty && (d.kwd.isEmpty && mSs N nm d.scope F.body d.body))))
theorem lookup_mem {x : Str} {k : NameKind} : ∀ {l : List (Str × NameKind)}, l.lookup x = some k → ∃ y, (y, k) ∈ l
  | [], h => by simp at h
  | (a, b) :: r, h => by
    rw [List.lookup_cons] at h
    split at h
    · cases h; exact ⟨a, List.mem_cons_self⟩
    · obtain ⟨y, hy⟩ := lookup_mem h
      exact ⟨y, List.mem_cons_of_mem _ hy⟩
section
variable {P : Prog} {nm : Nms} {cl : Nat → Value} {n : Nat} {prog : Program} {w : World} {K : PySem.W.Frag} {mg : Str → Option Value} {base : Heap}
theorem start_get {ns : Nat} {ds : List D} {i : Nat} : (startS ns ds)[i]? = if i < ds.length then (ds[i]?).map .fz else if i < ds.length + (ns - ds.length) then some .un else none := by
  unfold startS
  by_cases h : i < ds.length
  · rw [if_pos h, List.getElem?_append_left (by simpa using h), List.getElem?_map]
  · rw [if_neg h, List.getElem?_append_right (by simpa using h), List.getElem?_replicate]
    simp only [List.length_map]
    by_cases h2 : i - ds.length < ns - ds.length
    · rw [if_pos h2, if_pos (by omega)]
    · rw [if_neg h2, if_neg (by omega)]
theorem start_ow {ns : Nat} {ds : List D} {i : Nat} {m : Md} {d : D} : (startS ns ds)[i]? ≠ some (.ow m d) := fun h => by
  rw [start_get] at h
  split at h
  · rw [Option.map_eq_some_iff] at h
    obtain ⟨d', e, h⟩ := h
    cases h
  · split at h <;> cases h
theorem SR_start {ι : List Addr} {F : Hp} {M : Mem} {H : Hp} {ds : List D} {vs : List V} {N : List Str} {ns : Nat} (f : FSub F H) (m : MemRep K ι F M H) (r : Reps K ι F vs ds) (hN : N.length = ns) :
    SRO K ι F (fun _ => False) (startS ns ds) M (L2.start N vs) H := by
  have hl := r.length
  refine ⟨f, m, ?_, fun i d h => ?_, fun _ h => h.elim, fun _ _ => False, fun i m d h => absurd h start_ow, fun _ _ h => h, fun _ _ _ h => h.elim⟩
  · unfold startS L2.start; simp [hl, hN]
  · rw [start_get] at h
    split at h
    · rename_i hi
      rw [Option.map_eq_some_iff] at h
      obtain ⟨d', e, h⟩ := h
      cases h
      obtain ⟨v, e1, q⟩ := r.get e
      refine ⟨v, ?_, q⟩
      unfold L2.start
      rw [List.getElem?_append_left (by simp; omega), List.getElem?_map, e1]; rfl
    · split at h <;> cases h
/-- a def keeps its promise -/
theorem fn_ok {f : Nat} {F : Fn} {N ps : List Str} {d : He.DefD} {a : Addr} {fd : FuncData} (fx : Fx P nm cl n prog w K mg base) (hF : P.fns[f]? = some F) (hm : mFn nm N ps F d = true)
    (D0 : FunD K d.name d.qual d.params d.body d.scope (d.dvs K) (d.kws K) a fd) : FnOk prog w K mg base (L2.CX prog w) (n + 1) a fd ps (spF K cl P (n + 1) f) := by
  unfold mFn at hm
  simp only [Bool.and_eq_true, decide_eq_true_eq] at hm
  obtain ⟨h1, h2, h3, h4, h5, h6⟩ := hm
  have S := scB_ok h1
  refine FunD.ok D0 S (fun vs H Q E h => ?_) (fun cdv A outer s H vs Q E hr h => ?_)
  · obtain ⟨ι, F', M, ds, f', m, r, q⟩ := h
    have hne : callN P (n + 1) f ds M ≠ .st := fun e => by rw [e] at q; exact q
    obtain ⟨Fd, e1, e2⟩ := callN_len hne
    rw [hF] at e1; cases e1
    rw [r.length, e2, h2]
  · obtain ⟨ι, F', M, ds, f', m, r, q⟩ := h
    have hne : callN P (n + 1) f ds M ≠ .st := fun e => by rw [e] at q; exact q
    obtain ⟨Fd, e1, e2⟩ := callN_len hne
    rw [hF] at e1; cases e1
    have xs : XS P nm cl n (cxOf (L2.CX prog w) prog w K mg base N d.qual d.scope a cdv A outer s H E) d.scope (fun c dd _ H => E c dd H) := by
      refine ⟨⟨takes_of rfl rfl rfl rfl, rfl, S.nd, hr, fun x k h _ => h, fun x h => ?_, fun x h => rfl, fx⟩, passes_of rfl, rfl, rfl⟩
      obtain ⟨y, hy⟩ := lookup_mem h
      exact absurd rfl (S.nofree _ hy)
    refine ⟨_, sSs F.body xs h6, ι, F', _, startS F.ns ds, M, SR_start f' m r h3, ?_⟩
    unfold callN at q
    rw [hF] at q
    simp only [e2, if_true] at q
    show ResS K cl _ ι F' _ _ H (evSs (cfgN P n) F.body (startS F.ns ds) M) _
    have toP : ∀ {ι' : List Addr} {F2 H2 : Hp} {O2 : Addr → Prop}, StS ι F' (fun _ => False) H ι' F2 O2 H2 → Stp ι F' H ι' F2 H2 := fun s => ⟨s.pre, s.subF, fun a h n e => s.newF a h n id e, fun a u h n => s.keep a u h n id, s.live⟩
    have no : ∀ {ι' : List Addr} {F2 H2 : Hp}, New ι' F2 H H2 fun _ => False := ⟨fun _ h => h.elim⟩
    cases er : evSs (cfgN P n) F.body (startS F.ns ds) M with
    | nx ρ' M' => simp only [er] at q; exact fun ι' F2 O2 H2 σ' s r' => q ι' F2 H2 (toP s) r'.sub r'.mem .non (fun _ => False) (.fz .non (.inl rfl)) no
    | rt d' M' => simp only [er] at q; exact fun ι' F2 O2 H2 v T s f2 m2 hv hT => q ι' F2 H2 (toP s) f2 m2 v T hv ⟨fun a ha => let ⟨h1, h2, h3, h4⟩ := hT a ha; ⟨h2, h3, (s.newO a h1).elim id fun z => z.elim, h4⟩⟩
    | bk ρ' M' => simp only [er] at q; exact q.elim
    | ct ρ' M' => simp only [er] at q; exact q.elim
    | ex c ρ' M' => simp only [er] at q; exact fun ι' F2 O2 H2 σ' s r' => q ι' F2 H2 (toP s) r'.sub r'.mem
    | st => simp only [er] at q; exact q
/-- what the text says of the defs, the constants, the errors -/
structure Tx (P : Prog) (nm : Nms) (cl : Nat → Value) (K : PySem.W.Frag) (mg : Str → Option Value) : Prop where
  fns : ∀ (f : Nat) x, nm.fns[f]? = some x → ∃ (a : Addr) (fd : FuncData) (N ps : List Str) (d : He.DefD) (F : Fn), mg x = some (.ref a) ∧ PySem.W.keepIn K (.ref a) = true ∧ Binds K fd ps [] ∧ P.fns[f]? = some F ∧ mFn nm N ps F d = true ∧
    FunD K d.name d.qual d.params d.body d.scope (d.dvs K) (d.kws K) a fd
  consts : ∀ (k : Nat) x d, nm.consts[k]? = some x → P.consts[k]? = some d → ∃ u v, mg x = some u ∧ RelV v u ∧ Rep K [] (fun _ => none) v d
  blt : ∀ x ∈ bltNames, mg x = none
  excs : ∀ (k : Nat) x, nm.excs[k]? = some x → ∃ C, cl k = .ref C ∧ mg x = some (.ref C) ∧ PySem.W.keepIn K (.ref C) = true ∧
    PySem.W.excIn K C [.type "ValueError", .type "Exception", .type "BaseException", .type "object"] "ValueError.__new__" = true ∧
    PySem.W.subIn K (.ref C) (.type "BaseException") = some true ∧ PySem.W.typeIn K (.ref C) = some (.type "type")
  subs : ∀ (k c : Nat) b, P.sub k c = some b → ∃ D C, cl k = .ref D ∧ cl c = .ref C ∧ L2.ExcC K D ∧ PySem.W.exmOne K (.ref D) (.ref C) = some b ∧ PySem.W.kitOne K (.ref D) (.ref C) = some b ∧
    PySem.W.kitOne K (.ref D) (.type "ValueError") = some true
theorem fn_none {a : Addr} {fd : FuncData} {ps : List Str} {f : Nat} : FnOk prog w K mg base (L2.CX prog w) 0 a fd ps (spF K cl P 0 f) :=
  ⟨fun vs H Q E h => by obtain ⟨_, _, _, _, _, _, _, q⟩ := h; exact q.elim, fun A outer s H args us vs Q E hr he hb hv h => by obtain ⟨_, _, _, _, _, _, _, q⟩ := h; exact q.elim⟩
theorem Tx.fx (t : Tx P nm cl K mg) : ∀ n, Fx P nm cl n prog w K mg base
  | 0 => ⟨fun f x h => by
      obtain ⟨a, fd, N, ps, d, F, e1, e2, e3, e4, e5, e6⟩ := t.fns f x h
      exact ⟨a, fd, ps, e1, e2, e3, fn_none⟩, t.consts, t.blt, t.excs, t.subs⟩
  | n + 1 => ⟨fun f x h => by
      obtain ⟨a, fd, N, ps, d, F, e1, e2, e3, e4, e5, e6⟩ := t.fns f x h
      exact ⟨a, fd, ps, e1, e2, e3, fn_ok (t.fx n) e4 e5 e6⟩, t.consts, t.blt, t.excs, t.subs⟩
/-- no exception leaves -/
theorem fn_nox {k : Nat} {f : Addr} {fd : FuncData} {ps : List Str} {sp : Sp} (F : FnOk prog w K mg base (L2.CX prog w) k f fd ps sp) : FnOk prog w K mg base CX0 k f fd ps (fun vs H Q _ => sp vs H Q fun _ _ _ => False) :=
  ⟨fun vs H Q E h => F.len vs H Q _ h, fun A outer s H args us vs Q E hr he hb hv h => codeAny_mono (F.run A outer s H args us vs Q _ hr he hb hv h) fun r s' hq => by
    cases r with
    | error e =>
      obtain ⟨_, _, _, _, _, _, _, _, _, _, _, _, z⟩ := hq
      exact z.elim
    | ok fl => cases fl <;> exact hq⟩
/-- the law's call -/
theorem law_sp {f k : Nat} {H : Hp} {a : Addr} {ns : List Int} {M' : Mem} {md : Md} (h : callN P k f [.lst (ns.map .int)] [] = .ok (md, .bl true) M') (hS : SqL K H a (ns.map V.int)) :
    spF K cl P k f [.ref a] H (fun v _ => v = .bl true) fun _ _ _ => False := by
  have reps : ∀ ns : List Int, ∀ {F : Hp}, Reps K [] F (ns.map V.int) (ns.map D.int) := fun ns F => by
    induction ns with
    | nil => exact .nil
    | cons n ns ih => exact .cons (.int n) ih
  refine ⟨[], fun b => if b = a then H a else none, [], [.lst (ns.map .int)], fun b u hb => ?_, ⟨rfl, .nil, fun n b mo h => by simp at h⟩, .cons (.lst ?_ (reps ns)) .nil, ?_⟩
  · dsimp only at hb
    split at hb
    · rename_i e; rw [e]; exact .inl hb
    · cases hb
  · rcases hS with (q | ⟨o, q⟩) | q
    · exact .inl (.inl (by simp only [if_true]; exact q))
    · exact .inl (.inr ⟨o, by simp only [if_true]; exact q⟩)
    · exact .inr q
  · rw [h]
    intro ι' F' H' s f m v T hv hT
    have := hv.flat (.inr rfl)
    cases this
    rfl
end
end VL
/-! VG: the head's facts, with tuples of the top and what the errors' classes say -/
namespace VL
open PySem PySem.Spec PyProof.Rows L2
def excB (K : PySem.W.Frag) (D : Addr) : Bool :=
  He.eqO (PySem.W.findIn K (.ref D) "__getattribute__") (some (some (.builtin "BaseException.__getattribute__"))) && (He.eqO (PySem.W.findIn K (.ref D) "__getattr__") (some none) &&
  (decide (PySem.W.subIn K (.ref D) (.type "BaseException") = some true) && (PySem.W.hasDictIn K D && (He.eqO (PySem.W.findIn K (.ref D) "__class__") (some (some (.builtin "object.__class__"))) &&
  (He.eqO (PySem.W.specialIn K (.builtin "object.__class__") "__get__") (some (some (.builtin "getset_descriptor.__get__"))) && (decide (PySem.W.takesIn K (.builtin "object.__class__") = some true) && decide (PySem.W.mroIn K D (.type "object") = some true)))))))
theorem excB_ok {K : PySem.W.Frag} {D : Addr} (h : excB K D = true) : L2.ExcC K D := by
  unfold excB at h
  simp only [Bool.and_eq_true, decide_eq_true_eq] at h
  obtain ⟨h1, h2, h3, h4, h5, h6, h7, h8⟩ := h
  exact ⟨He.eqO_ok h1, He.eqO_ok h2, h3, h4, He.eqO_ok h5, He.eqO_ok h6, h7, h8⟩
def subB (K : PySem.W.Frag) (t : Str × Str × Bool) : Bool :=
  decide (PySem.W.exmOne K (.ref (He.ga K t.1)) (.ref (He.ga K t.2.1)) = some t.2.2) && decide (PySem.W.kitOne K (.ref (He.ga K t.1)) (.ref (He.ga K t.2.1)) = some t.2.2)
def hasB (K : PySem.W.Frag) (x : Str) : Bool := excB K (He.ga K x) && decide (PySem.W.kitOne K (.ref (He.ga K x)) (.type "ValueError") = some true)
/-- more facts: tuples of the top; classes of errors that are caught; who is under whom -/
structure Ex3 where
  tups : List (Str × List He.Dv)
  has : List Str
  subs : List (Str × Str × Bool)
def Ex3.ok (e : Ex3) (K : PySem.W.Frag) : Bool := (e.tups.all fun t => He.tupB K t.1 t.2) && ((e.has.all fun x => hasB K x) && e.subs.all fun t => subB K t)
abbrev AlX : Type := He.AlD × Bool
def obsX (fa : List He.Fa) (fn : List He.DefD) (ex : Ex3) (K : PySem.W.Frag) : AlX := (He.obsD fa fn K, ex.ok K)
def valX (fn : List He.DefD) : AlX := (He.valD fn, true)
def SaysX (fa : List He.Fa) (fn : List He.DefD) (ex : Ex3) (K : PySem.W.Frag) : Prop := obsX fa fn ex K = valX fn
def obsXG (n : Nat) (fa : List He.Fa) (fn : List He.DefD) (ex : Ex3) (g : Addr → Option Obj) : AlX := obsX fa fn ex (He.frG g (He.asD g n))
def hookX (n : Nat) (fa : List He.Fa) (fn : List He.DefD) (ex : Ex3) : PySem.W.Hook where
  α := AlX
  obs s := obsXG n fa fn ex s.heap.get?
  val _ := valX fn
  says _ h := ∃ K : PySem.W.Frag, K.In h ∧ SaysX fa fn ex K
  of _ _ e := ⟨_, He.frG_in, e⟩
  keeps _ _ _ z k := let ⟨K, hK, c⟩ := z; ⟨K, PySem.W.Frag.In.keeps hK k, c⟩
theorem obsXG_eq {n : Nat} {fa : List He.Fa} {fn : List He.DefD} {ex : Ex3} {g : Addr → Option Obj} {s : Shared} (h : ∀ a, g a = s.heap.get? a) : obsXG n fa fn ex g = (hookX n fa fn ex).obs s := by
  have : g = s.heap.get? := funext h
  rw [this] <;> rfl
section
variable {fa : List He.Fa} {fn : List He.DefD} {ex : Ex3} {K : PySem.W.Frag}
theorem SaysX.d (c : SaysX fa fn ex K) : He.SaysD fa fn K := congrArg (fun z : AlX => z.1) c
theorem SaysX.x (c : SaysX fa fn ex K) : ex.ok K = true := congrArg (fun z : AlX => z.2) c
theorem SaysX.tup (c : SaysX fa fn ex K) {t : Str × List He.Dv} (h : t ∈ ex.tups) : He.tupB K t.1 t.2 = true := by
  have := c.x
  unfold Ex3.ok at this
  simp only [Bool.and_eq_true, List.all_eq_true] at this
  exact this.1 t h
theorem SaysX.has (c : SaysX fa fn ex K) {x : Str} (h : x ∈ ex.has) : L2.ExcC K (He.ga K x) ∧ PySem.W.kitOne K (.ref (He.ga K x)) (.type "ValueError") = some true := by
  have := c.x
  unfold Ex3.ok at this
  simp only [Bool.and_eq_true, List.all_eq_true] at this
  have z := this.2.1 x h
  unfold hasB at z
  simp only [Bool.and_eq_true, decide_eq_true_eq] at z
  exact ⟨excB_ok z.1, z.2⟩
theorem SaysX.sub (c : SaysX fa fn ex K) {t : Str × Str × Bool} (h : t ∈ ex.subs) : PySem.W.exmOne K (.ref (He.ga K t.1)) (.ref (He.ga K t.2.1)) = some t.2.2 ∧ PySem.W.kitOne K (.ref (He.ga K t.1)) (.ref (He.ga K t.2.1)) = some t.2.2 := by
  have := c.x
  unfold Ex3.ok at this
  simp only [Bool.and_eq_true, List.all_eq_true] at this
  have z := this.2.2 t h
  unfold subB at z
  simp only [Bool.and_eq_true, decide_eq_true_eq] at z
  exact z
end
/-- who is under whom: from the names -/
theorem subs_ok {fa : List He.Fa} {fn : List He.DefD} {ex : Ex3} {K : PySem.W.Frag} {P : Prog} {nm : Nms} {cl : Nat → Value} (c : SaysX fa fn ex K) (hcl : ∀ k, cl k = .ref (He.ga K (nm.excs.getD k "")))
    (h : ∀ t ∈ P.subs, (nm.excs.getD t.1 "", nm.excs.getD t.2.1 "", t.2.2) ∈ ex.subs ∧ nm.excs.getD t.1 "" ∈ ex.has) :
    ∀ (k d : Nat) b, P.sub k d = some b → ∃ D C, cl k = .ref D ∧ cl d = .ref C ∧ L2.ExcC K D ∧ PySem.W.exmOne K (.ref D) (.ref C) = some b ∧ PySem.W.kitOne K (.ref D) (.ref C) = some b ∧
      PySem.W.kitOne K (.ref D) (.type "ValueError") = some true := by
  intro k d b hb
  unfold Prog.sub at hb
  rw [Option.map_eq_some_iff] at hb
  obtain ⟨t, ht, rfl⟩ := hb
  have hm := List.mem_of_find?_eq_some ht
  have hp := List.find?_some ht
  simp only [Bool.and_eq_true, decide_eq_true_eq] at hp
  obtain ⟨rfl, rfl⟩ := hp
  obtain ⟨z1, z2⟩ := h t hm
  obtain ⟨e1, e2⟩ := c.sub z1
  obtain ⟨e3, e4⟩ := c.has z2
  exact ⟨_, _, hcl _, hcl _, e3, e1, e2, e4⟩
end VL
/-! VC: tools for laws over the evaluator -/
namespace VL
open PySem
def RS.fin : RS → R (Md × D)
  | .nx _ M' => .ok (Md.z, .non) M'
  | .rt d M' => .ok d M'
  | .ex c _ M' => .ex c M'
  | _ => .st
@[simp] theorem RS.fin_nx (ρ : Sl) (M : Mem) : (RS.nx ρ M).fin = .ok (Md.z, .non) M := rfl
@[simp] theorem RS.fin_rt (d : Md × D) (M : Mem) : (RS.rt d M).fin = .ok d M := rfl
@[simp] theorem RS.fin_ex (c : Nat) (ρ : Sl) (M : Mem) : (RS.ex c ρ M).fin = .ex c M := rfl
theorem callN_eq {P : Prog} {f n : Nat} {F : Fn} {ds : List D} {M : Mem} (h : P.fns[f]? = some F) (hl : ds.length = F.np) : callN P (n + 1) f ds M = (evSs (cfgN P n) F.body (startS F.ns ds) M).fin := by
  unfold callN
  rw [h]
  simp only [hl, if_true]
  cases evSs (cfgN P n) F.body (startS F.ns ds) M <;> rfl
theorem succ_of {n c : Nat} (h : c + 1 ≤ n) : ∃ m, n = m + 1 ∧ c ≤ m := ⟨n - 1, by omega, by omega⟩
/-! ### call by value: what comes behind stands as data until its turn -/
noncomputable def forB (c : Cfg) (p : Pt) (body : List Sm) : D → Sl → Mem → RS := fun d ρ M => match bindP p d ρ with
  | some ρ' => evSs c body ρ' M
  | none => .st
noncomputable def kSeq (c : Cfg) (r : List Sm) (x : RS) : RS := x.seq fun ρ M => evSs c r ρ M
theorem kSeq_nx {c : Cfg} {r : List Sm} {ρ : Sl} {M : Mem} : kSeq c r (.nx ρ M) = evSs c r ρ M := rfl
theorem kSeq_rt {c : Cfg} {r : List Sm} {d : Md × D} {M : Mem} : kSeq c r (.rt d M) = .rt d M := rfl
theorem kSeq_ex {c : Cfg} {r : List Sm} {k : Nat} {ρ : Sl} {M : Mem} : kSeq c r (.ex k ρ M) = .ex k ρ M := rfl
theorem kSeq_bk {c : Cfg} {r : List Sm} {ρ : Sl} {M : Mem} : kSeq c r (.bk ρ M) = .bk ρ M := rfl
theorem kSeq_ct {c : Cfg} {r : List Sm} {ρ : Sl} {M : Mem} : kSeq c r (.ct ρ M) = .ct ρ M := rfl
theorem E_cons {c : Cfg} {s : Sm} {r : List Sm} {ρ : Sl} {M : Mem} : evSs c (s :: r) ρ M = kSeq c r (evS c s ρ M) := by rw [evSs.eq_2]; rfl
theorem E_nil {c : Cfg} {ρ : Sl} {M : Mem} : evSs c [] ρ M = .nx ρ M := by rw [evSs.eq_1]
def kBd (x : Option Sl) (M : Mem) : RS := match x with | some ρ' => .nx ρ' M | none => .st
theorem kBd_some {ρ : Sl} {M : Mem} : kBd (some ρ) M = .nx ρ M := rfl
def kAsg (p : Pt) (ρ : Sl) (x : R D) : RS := x.to ρ fun d M1 => kBd (bindP p d ρ) M1
theorem kAsg_ok {p : Pt} {ρ : Sl} {d : D} {M : Mem} : kAsg p ρ (.ok d M) = kBd (bindP p d ρ) M := rfl
theorem kAsg_ex {p : Pt} {ρ : Sl} {k : Nat} {M : Mem} : kAsg p ρ (.ex k M) = .ex k ρ M := rfl
theorem E_asg {c : Cfg} {p : Pt} {e : Ex} {ρ : Sl} {M : Mem} : evS c (.asg p e) ρ M = kAsg p ρ (evE c e ρ M) := by rw [evS.eq_1]; rfl
def kOwn (i : Nat) (ρ : Sl) (x : R (Md × D)) : RS := x.to ρ fun r M1 => .nx (ρ.set i (slM r)) M1
theorem kOwn_ok {i : Nat} {ρ : Sl} {r : Md × D} {M : Mem} : kOwn i ρ (.ok r M) = .nx (ρ.set i (slM r)) M := rfl
theorem kOwn_ex {i : Nat} {ρ : Sl} {k : Nat} {M : Mem} : kOwn i ρ (.ex k M) = .ex k ρ M := rfl
theorem E_own {c : Cfg} {i : Nat} {a : Ax} {ρ : Sl} {M : Mem} : evS c (.own i a) ρ M = kOwn i ρ (evA c a ρ M) := by rw [evS.eq_2]; rfl
/-- the thing of a slot -/
def getO (ρ : Sl) (i : Nat) : Option (Md × D) := match ρ, i with
  | .ow m d :: _, 0 => some (m, d)
  | _ :: ρ, i + 1 => getO ρ i
  | _, _ => none
theorem getO_0 {m : Md} {d : D} {ρ : Sl} : getO (.ow m d :: ρ) 0 = some (m, d) := rfl
theorem getO_s {x : SV} {ρ : Sl} {i : Nat} : getO (x :: ρ) (i + 1) = getO ρ i := by cases x <;> rfl
theorem getO_eq : ∀ {ρ : Sl} {i : Nat}, getO ρ i = match ρ[i]? with | some (.ow m d) => some (m, d) | _ => none
  | [], i => by simp [getO]
  | x :: ρ, 0 => by cases x <;> rfl
  | x :: ρ, i + 1 => by rw [getO_s, getO_eq]; rfl
/-- a list on a path -/
def getL (d : D) (ks : List D) : Option (List D) := match getP d ks with | some (.lst ds) => some ds | _ => none
theorem getL_nil {ds : List D} : getL (.lst ds) [] = some ds := rfl
theorem getL_of {d : D} {ks : List D} {ds : List D} (h : getP d ks = some (.lst ds)) : getL d ks = some ds := by unfold getL; rw [h]
def kMu (i : Nat) (m : Md) (d : D) (ks : List D) (ρ : Sl) (M : Mem) (x : Option Md) (y : Option (List D)) : RS := match x, y with
  | some m', some ds' => .nx (ρ.set i (.ow (if ks.isEmpty then m' else m) (setP d ks (.lst ds')))) M
  | _, _ => .st
theorem kMu_0 {i : Nat} {m m' : Md} {d : D} {ρ : Sl} {M : Mem} {ds : List D} : kMu i m d [] ρ M (some m') (some ds) = .nx (ρ.set i (.ow m' (.lst ds))) M := rfl
theorem kMu_1 {i : Nat} {m m' : Md} {d k : D} {ks : List D} {ρ : Sl} {M : Mem} {ds : List D} : kMu i m d (k :: ks) ρ M (some m') (some ds) = .nx (ρ.set i (.ow m (setP d (k :: ks) (.lst ds)))) M := rfl
def kMuL (i : Nat) (m : Md) (d : D) (ks : List D) (mu : Mu) (k : D) (r : Md × D) (ρ : Sl) (M : Mem) (x : Option (List D)) : RS := match x with
  | some ds => kMu i m d ks ρ M (putM (dnP m ks) ks.isEmpty ds r) (muD mu k ds r.2)
  | none => .st
theorem kMuL_some {i : Nat} {m : Md} {d : D} {ks : List D} {mu : Mu} {k : D} {r : Md × D} {ρ : Sl} {M : Mem} {ds : List D} : kMuL i m d ks mu k r ρ M (some ds) = kMu i m d ks ρ M (putM (dnP m ks) ks.isEmpty ds r) (muD mu k ds r.2) := rfl
theorem muR_eq {i : Nat} {m : Md} {d : D} {ks : List D} {mu : Mu} {k : D} {r : Md × D} {ρ : Sl} {M : Mem} : muR i m d ks mu k r ρ M = kMuL i m d ks mu k r ρ M (getL d ks) := by
  unfold muR kMuL getL
  cases getP d ks with
  | none => rfl
  | some x => cases x <;> rfl
theorem putM_flat {m : Md} {t : Bool} {ds : List D} {r : Md × D} (h : r.2.isLD = false) : putM m t ds r = some m := by unfold putM; simp [h]
theorem putM_same {t : Bool} {ds : List D} {d : D} : putM .all t ds (.all, d) = some .all := by unfold putM; simp [Md.dn]
theorem pathB_L {m : Md} {d : D} {ks : List D} {ds : List D} (h : getL d ks = some ds) (hm : dnP m ks ≠ .z) : pathB m d ks = true := by
  unfold pathB
  unfold getL at h
  cases e : getP d ks with
  | none => rw [e] at h; cases h
  | some x =>
    rw [e] at h
    cases x with
    | lst ds2 => simp [hm]
    | _ => cases h
theorem dnP_all : ∀ ks, dnP .all ks = .all
  | [] => rfl
  | _ :: ks => dnP_all ks
def kM4 (i : Nat) (ks : List D) (mu : Mu) (k : D) (r : Md × D) (ρ : Sl) (M : Mem) (o : Option (Md × D)) : RS := match o with
  | some (m, d) => muR i m d ks mu k r ρ M
  | none => .st
theorem kM4_some {i : Nat} {ks : List D} {mu : Mu} {k : D} {r : Md × D} {ρ : Sl} {M : Mem} {m : Md} {d : D} : kM4 i ks mu k r ρ M (some (m, d)) = kMuL i m d ks mu k r ρ M (getL d ks) := muR_eq
def kM3 (i : Nat) (ks : List D) (mu : Mu) (k : D) (el : El) (ρ : Sl) (x : R (Md × D)) : RS := x.to ρ fun r M3 => kM4 i ks mu k r (giveS el ρ) M3 (getO (giveS el ρ) i)
theorem kM3_ok {i : Nat} {ks : List D} {mu : Mu} {k : D} {el : El} {ρ : Sl} {r : Md × D} {M : Mem} : kM3 i ks mu k el ρ (.ok r M) = kM4 i ks mu k r (giveS el ρ) M (getO (giveS el ρ) i) := rfl
theorem kM3_ex {i : Nat} {ks : List D} {mu : Mu} {k : D} {el : El} {ρ : Sl} {q : Nat} {M : Mem} : kM3 i ks mu k el ρ (.ex q M) = .ex q ρ M := rfl
def kM2 (c : Cfg) (i : Nat) (ks : List D) (mu : Mu) (el : El) (ρ : Sl) (x : R D) : RS := x.to ρ fun k M2 => kM3 i ks mu k el ρ (evL c el ρ M2)
theorem kM2_ok {c : Cfg} {i : Nat} {ks : List D} {mu : Mu} {el : El} {ρ : Sl} {k : D} {M : Mem} : kM2 c i ks mu el ρ (.ok k M) = kM3 i ks mu k el ρ (evL c el ρ M) := rfl
def kM1 (c : Cfg) (i : Nat) (mu : Mu) (el : El) (ρ : Sl) (m : Md) (d : D) (x : R (List D)) : RS := x.nox.to ρ fun ks M1 => if pathB m d ks = true then kM2 c i ks mu el ρ (evE c (muK mu) ρ M1) else .st
def kM1b (c : Cfg) (i : Nat) (mu : Mu) (el : El) (ρ : Sl) (ks : List D) (M : Mem) (b : Bool) : RS := if b = true then kM2 c i ks mu el ρ (evE c (muK mu) ρ M) else .st
theorem kM1_ok {c : Cfg} {i : Nat} {mu : Mu} {el : El} {ρ : Sl} {m : Md} {d : D} {ks : List D} {M : Mem} : kM1 c i mu el ρ m d (.ok ks M) = kM1b c i mu el ρ ks M (pathB m d ks) := rfl
theorem kM1b_t {c : Cfg} {i : Nat} {mu : Mu} {el : El} {ρ : Sl} {ks : List D} {M : Mem} : kM1b c i mu el ρ ks M true = kM2 c i ks mu el ρ (evE c (muK mu) ρ M) := rfl
def kM0 (c : Cfg) (i : Nat) (ps : List Ex) (mu : Mu) (el : El) (ρ : Sl) (M : Mem) (o : Option (Md × D)) : RS := match o with
  | some (m, d) => kM1 c i mu el ρ m d (evEs c ps ρ M)
  | none => .st
theorem kM0_some {c : Cfg} {i : Nat} {ps : List Ex} {mu : Mu} {el : El} {ρ : Sl} {M : Mem} {m : Md} {d : D} : kM0 c i ps mu el ρ M (some (m, d)) = kM1 c i mu el ρ m d (evEs c ps ρ M) := rfl
theorem E_mut {c : Cfg} {i : Nat} {ps : List Ex} {mu : Mu} {el : El} {ρ : Sl} {M : Mem} (h : ∀ k, mu ≠ .setk k) : evS c (.mut i ps mu el) ρ M = kM0 c i ps mu el ρ M (getO ρ i) := by
  rw [evS.eq_4 _ _ _ _ _ _ _ (fun k e => h k e), getO_eq]
  cases e : ρ[i]? with
  | none => rfl
  | some x =>
    cases x with
    | ow m d =>
      show _ = kM1 c i mu el ρ m d (evEs c ps ρ M)
      unfold kM1 kM2 kM3 kM4
      simp only [getO_eq]
      congr 1
      funext ks M1
      split
      · congr 1
        funext k M2
        congr 1
        funext r M3
        cases (giveS el ρ)[i]? with
        | none => rfl
        | some y => cases y <;> rfl
      · rfl
    | _ => rfl
theorem E_app {c : Cfg} {i : Nat} {ps : List Ex} {el : El} {ρ : Sl} {M : Mem} : evS c (.mut i ps .app el) ρ M = kM0 c i ps .app el ρ M (getO ρ i) := E_mut fun _ e => by cases e
theorem E_clear {c : Cfg} {i : Nat} {ps : List Ex} {el : El} {ρ : Sl} {M : Mem} : evS c (.mut i ps .clear el) ρ M = kM0 c i ps .clear el ρ M (getO ρ i) := E_mut fun _ e => by cases e
theorem E_rev {c : Cfg} {i : Nat} {ps : List Ex} {el : El} {ρ : Sl} {M : Mem} : evS c (.mut i ps .rev el) ρ M = kM0 c i ps .rev el ρ M (getO ρ i) := E_mut fun _ e => by cases e
def kS3 (i : Nat) (m : Md) (d : D) (ks : List D) (k : Ex) (r : Md × D) (ρ : Sl) (x : R D) : RS := x.to ρ fun v M3 => muR i m d ks (.setk k) v r ρ M3
theorem kS3_ok {i : Nat} {m : Md} {d : D} {ks : List D} {k : Ex} {r : Md × D} {ρ : Sl} {v : D} {M : Mem} : kS3 i m d ks k r ρ (.ok v M) = kMuL i m d ks (.setk k) v r ρ M (getL d ks) := muR_eq
def kS2b (c : Cfg) (i : Nat) (m : Md) (d : D) (k : Ex) (r : Md × D) (ρ : Sl) (ks : List D) (M : Mem) (b : Bool) : RS := if b = true then kS3 i m d ks k r ρ (evE c k ρ M) else .st
theorem kS2b_t {c : Cfg} {i : Nat} {m : Md} {d : D} {k : Ex} {r : Md × D} {ρ : Sl} {ks : List D} {M : Mem} : kS2b c i m d k r ρ ks M true = kS3 i m d ks k r ρ (evE c k ρ M) := rfl
def kS2 (c : Cfg) (i : Nat) (m : Md) (d : D) (k : Ex) (r : Md × D) (ρ : Sl) (x : R (List D)) : RS := x.nox.to ρ fun ks M2 => kS2b c i m d k r ρ ks M2 (pathB m d ks)
theorem kS2_ok {c : Cfg} {i : Nat} {m : Md} {d : D} {k : Ex} {r : Md × D} {ρ : Sl} {ks : List D} {M : Mem} : kS2 c i m d k r ρ (.ok ks M) = kS2b c i m d k r ρ ks M (pathB m d ks) := rfl
def kS1b (c : Cfg) (i : Nat) (ps : List Ex) (k : Ex) (r : Md × D) (ρ : Sl) (M : Mem) (o : Option (Md × D)) : RS := match o with
  | some (m, d) => kS2 c i m d k r ρ (evEs c ps ρ M)
  | none => .st
theorem kS1b_some {c : Cfg} {i : Nat} {ps : List Ex} {k : Ex} {r : Md × D} {ρ : Sl} {M : Mem} {m : Md} {d : D} : kS1b c i ps k r ρ M (some (m, d)) = kS2 c i m d k r ρ (evEs c ps ρ M) := rfl
def kS1 (c : Cfg) (i : Nat) (ps : List Ex) (k : Ex) (el : El) (ρ : Sl) (x : R (Md × D)) : RS := x.to ρ fun r M1 => kS1b c i ps k r (giveS el ρ) M1 (getO (giveS el ρ) i)
theorem kS1_ok {c : Cfg} {i : Nat} {ps : List Ex} {k : Ex} {el : El} {ρ : Sl} {r : Md × D} {M : Mem} : kS1 c i ps k el ρ (.ok r M) = kS1b c i ps k r (giveS el ρ) M (getO (giveS el ρ) i) := rfl
theorem kS1_ex {c : Cfg} {i : Nat} {ps : List Ex} {k : Ex} {el : El} {ρ : Sl} {q : Nat} {M : Mem} : kS1 c i ps k el ρ (.ex q M) = .ex q ρ M := rfl
theorem E_setk {c : Cfg} {i : Nat} {ps : List Ex} {k : Ex} {el : El} {ρ : Sl} {M : Mem} : evS c (.mut i ps (.setk k) el) ρ M = kS1 c i ps k el ρ (evL c el ρ M) := by
  rw [evS.eq_3]
  unfold kS1 kS1b kS2 kS2b kS3
  simp only [getO_eq]
  congr 1
  funext r M1
  cases (giveS el ρ)[i]? with
  | none => rfl
  | some y => cases y <;> rfl
def kP4 (p : Pt) (i : Nat) (m : Md) (d : D) (ks : List D) (ds : List D) (ρ : Sl) (M : Mem) (n : Nat) (y : D) : RS :=
  if y.isLD = false then kBd (bindP p y (ρ.set i (.ow m (setP d ks (.lst (ds.eraseIdx n)))))) M else .st
theorem kP4_ok {p : Pt} {i : Nat} {m : Md} {d : D} {ks : List D} {ds : List D} {ρ : Sl} {M : Mem} {n : Nat} {y : D} (h : y.isLD = false) : kP4 p i m d ks ds ρ M n y = kBd (bindP p y (ρ.set i (.ow m (setP d ks (.lst (ds.eraseIdx n)))))) M := by unfold kP4; rw [if_pos h]
theorem E_pop {c : Cfg} {p : Pt} {i : Nat} {ps : List Ex} {k : Option Ex} {ρ : Sl} {M M1 M2 : Mem} {m : Md} {d y : D} {ks ds : List D} {j : Int} {n : Nat} (h1 : getO ρ i = some (m, d)) (h2 : evEs c ps ρ M = .ok ks M1) (h3 : evE c (k.getD (.lit (.int (-1)))) ρ M1 = .ok (.int j) M2)
    (h4 : getL d ks = some ds) (hm : dnP m ks ≠ .z) (h5 : L2.ixN ds.length j = some n) (h6 : ds[n]? = some y) (hj : -(2 ^ 63) ≤ j ∧ j < 2 ^ 63) : evS c (.pop p i ps k) ρ M = kP4 p i m d ks ds ρ M2 n y := by
  rw [getO_eq] at h1
  have h1 : ρ[i]? = some (.ow m d) := by
    cases e : ρ[i]? with
    | none => rw [e] at h1; cases h1
    | some x => rw [e] at h1; cases x <;> first | (cases h1; done) | (cases h1; rfl)
  have hp := pathB_L h4 hm
  unfold getL at h4
  have h4 : getP d ks = some (.lst ds) := by
    cases e : getP d ks with
    | none => rw [e] at h4; cases h4
    | some x => rw [e] at h4; cases x <;> first | (cases h4; done) | (cases h4; rfl)
  rw [evS.eq_5, h1]
  simp only [h2, R.nox_ok, R.to_ok, hp, if_true, h3, h4, h5, h6, hj, and_true, kP4]
  rfl
def kAug2 (i : Nat) (ρ : Sl) (x : Option D) (M : Mem) : RS := match x with | some z => .nx (ρ.set i (.fz z)) M | none => .st
theorem kAug2_some {i : Nat} {ρ : Sl} {z : D} {M : Mem} : kAug2 i ρ (some z) M = .nx (ρ.set i (.fz z)) M := rfl
def kAug1 (o : BOp) (i : Nat) (x : D) (ρ : Sl) (y : R D) : RS := y.to ρ fun y M1 => kAug2 i ρ (augD o x y) M1
theorem kAug1_ok {o : BOp} {i : Nat} {x y : D} {ρ : Sl} {M : Mem} : kAug1 o i x ρ (.ok y M) = kAug2 i ρ (augD o x y) M := rfl
def kAug0 (c : Cfg) (o : BOp) (i : Nat) (e : Ex) (ρ : Sl) (x : R D) : RS := match x with | .ok x M => kAug1 o i x ρ (evE c e ρ M) | _ => .st
theorem kAug0_ok {c : Cfg} {o : BOp} {i : Nat} {e : Ex} {ρ : Sl} {x : D} {M : Mem} : kAug0 c o i e ρ (.ok x M) = kAug1 o i x ρ (evE c e ρ M) := rfl
def rdV : Sl → Nat → Mem → R D
  | .fz d :: _, 0, M => .ok d M
  | _ :: ρ, i + 1, M => rdV ρ i M
  | _, _, _ => .st
theorem rdV_0 (d : D) (ρ : Sl) (M : Mem) : rdV (.fz d :: ρ) 0 M = .ok d M := rfl
theorem rdV_s (x : SV) (ρ : Sl) (i : Nat) (M : Mem) : rdV (x :: ρ) (i + 1) M = rdV ρ i M := by cases x <;> rfl
theorem E_var {c : Cfg} {i : Nat} {M : Mem} : ∀ {ρ : Sl}, evE c (.var i) ρ M = rdV ρ i M := by
  intro ρ
  rw [evE.eq_1]
  induction ρ generalizing i with
  | nil => rfl
  | cons x ρ ih =>
    cases i with
    | zero => cases x <;> rfl
    | succ i => rw [rdV_s, ← ih]; rfl
theorem rdV_eq {M : Mem} : ∀ {ρ : Sl} {i : Nat}, rdV ρ i M = match ρ[i]? with | some (.fz d) => .ok d M | _ => .st
  | [], i => by simp [rdV]
  | x :: ρ, 0 => by cases x <;> rfl
  | x :: ρ, i + 1 => by rw [rdV_s, rdV_eq]; rfl
theorem E_aug {c : Cfg} {i : Nat} {o : BOp} {e : Ex} {ρ : Sl} {M : Mem} : evS c (.aug i o e) ρ M = kAug0 c o i e ρ (rdV ρ i M) := by
  rw [evS.eq_6, rdV_eq]
  cases ρ[i]? with
  | none => rfl
  | some x =>
    cases x with
    | fz d =>
      show _ = kAug1 o i d ρ (evE c e ρ M)
      unfold kAug1
      dsimp only
      congr 1
      funext y M1
      cases augD o d y <;> rfl
    | _ => rfl
def kExpr (ρ : Sl) (x : R D) : RS := x.to ρ fun _ M1 => .nx ρ M1
theorem kExpr_ok {ρ : Sl} {d : D} {M : Mem} : kExpr ρ (.ok d M) = .nx ρ M := rfl
theorem kExpr_ex {ρ : Sl} {k : Nat} {M : Mem} : kExpr ρ (.ex k M) = .ex k ρ M := rfl
theorem E_expr {c : Cfg} {e : Ex} {ρ : Sl} {M : Mem} : evS c (.expr e) ρ M = kExpr ρ (evE c e ρ M) := by rw [evS.eq_7]; rfl
def kRet (ρ : Sl) (x : R D) : RS := x.to ρ fun d M1 => .rt (Md.z, d) M1
theorem kRet_ok {ρ : Sl} {d : D} {M : Mem} : kRet ρ (.ok d M) = .rt (Md.z, d) M := rfl
theorem kRet_ex {ρ : Sl} {k : Nat} {M : Mem} : kRet ρ (.ex k M) = .ex k ρ M := rfl
theorem E_ret {c : Cfg} {e : Ex} {ρ : Sl} {M : Mem} : evS c (.ret e) ρ M = kRet ρ (evE c e ρ M) := by rw [evS.eq_8]; rfl
theorem E_retN {c : Cfg} {ρ : Sl} {M : Mem} : evS c .retN ρ M = .rt (Md.z, .non) M := by rw [evS.eq_9]
def kRetA (ρ : Sl) (x : R (Md × D)) : RS := x.to ρ fun r M1 => .rt r M1
theorem kRetA_ok {ρ : Sl} {d : Md × D} {M : Mem} : kRetA ρ (.ok d M) = .rt d M := rfl
theorem kRetA_ex {ρ : Sl} {k : Nat} {M : Mem} : kRetA ρ (.ex k M) = .ex k ρ M := rfl
theorem E_retA {c : Cfg} {a : Ax} {ρ : Sl} {M : Mem} : evS c (.retA a) ρ M = kRetA ρ (evA c a ρ M) := by rw [evS.eq_10]; rfl
def rtV : Sl → Nat → Mem → RS
  | .ow m d :: _, 0, M => .rt (m, d) M
  | .fz d :: _, 0, M => .rt (Md.z, d) M
  | _ :: ρ, i + 1, M => rtV ρ i M
  | _, _, _ => .st
theorem rtV_ow {m : Md} {d : D} {ρ : Sl} {M : Mem} : rtV (.ow m d :: ρ) 0 M = .rt (m, d) M := rfl
theorem rtV_fz {d : D} {ρ : Sl} {M : Mem} : rtV (.fz d :: ρ) 0 M = .rt (Md.z, d) M := rfl
theorem rtV_s {x : SV} {ρ : Sl} {i : Nat} {M : Mem} : rtV (x :: ρ) (i + 1) M = rtV ρ i M := by cases x <;> rfl
theorem rtV_eq {M : Mem} : ∀ {ρ : Sl} {i : Nat}, rtV ρ i M = match ρ[i]? with | some (.ow m d) => .rt (m, d) M | some (.fz d) => .rt (Md.z, d) M | _ => .st
  | [], i => by simp [rtV]
  | x :: ρ, 0 => by cases x <;> rfl
  | x :: ρ, i + 1 => by rw [rtV_s, rtV_eq]; rfl
theorem E_retV {c : Cfg} {i : Nat} {ρ : Sl} {M : Mem} : evS c (.retV i) ρ M = rtV ρ i M := by
  rw [evS.eq_11, rtV_eq]
  all_goals (cases ρ[i]? with
    | none => rfl
    | some y => cases y <;> rfl)
noncomputable def kIf (c : Cfg) (a b : List Sm) (ρ : Sl) (x : R Bool) : RS := x.to ρ fun t M1 => if t then evSs c a ρ M1 else evSs c b ρ M1
theorem kIf_t {c : Cfg} {a b : List Sm} {ρ : Sl} {M : Mem} : kIf c a b ρ (.ok true M) = evSs c a ρ M := rfl
theorem kIf_f {c : Cfg} {a b : List Sm} {ρ : Sl} {M : Mem} : kIf c a b ρ (.ok false M) = evSs c b ρ M := rfl
theorem kIf_ex {c : Cfg} {a b : List Sm} {ρ : Sl} {k : Nat} {M : Mem} : kIf c a b ρ (.ex k M) = .ex k ρ M := rfl
theorem E_ifs {c : Cfg} {q : Ex} {a b : List Sm} {ρ : Sl} {M : Mem} : evS c (.ifs q a b) ρ M = kIf c a b ρ (evT c q ρ M) := by rw [evS.eq_12]; rfl
noncomputable def kFor2 (c : Cfg) (p : Pt) (body : List Sm) (ρ : Sl) (x : Option (List D)) (M : Mem) : RS := match x with
  | some items => forL (forB c p body) items ρ M
  | none => .st
theorem kFor2_some {c : Cfg} {p : Pt} {body : List Sm} {ρ : Sl} {items : List D} {M : Mem} : kFor2 c p body ρ (some items) M = forL (forB c p body) items ρ M := rfl
noncomputable def kFor (c : Cfg) (p : Pt) (k : ItK) (body : List Sm) (ρ : Sl) (x : R (List D)) : RS := x.to ρ fun ds M1 => kFor2 c p body ρ (itD k ds) M1
theorem kFor_ok {c : Cfg} {p : Pt} {k : ItK} {body : List Sm} {ρ : Sl} {ds : List D} {M : Mem} : kFor c p k body ρ (.ok ds M) = kFor2 c p body ρ (itD k ds) M := rfl
theorem kFor_ex {c : Cfg} {p : Pt} {k : ItK} {body : List Sm} {ρ : Sl} {q : Nat} {M : Mem} : kFor c p k body ρ (.ex q M) = .ex q ρ M := rfl
theorem E_for {c : Cfg} {p : Pt} {k : ItK} {args : List Ex} {body : List Sm} {ρ : Sl} {M : Mem} : evS c (.for_ p k args body) ρ M = kFor c p k body ρ (evEs c args ρ M) := by
  rw [evS.eq_13]
  unfold kFor
  congr 1
  funext ds M1
  cases itD k ds <;> rfl
noncomputable def kWhile (c : Cfg) (q : Ex) (body : List Sm) (ρ : Sl) (M : Mem) : RS := whileW (evT c q) (evSs c body) ρ M
theorem E_while {c : Cfg} {q : Ex} {body : List Sm} {ρ : Sl} {M : Mem} : evS c (.while_ q body) ρ M = kWhile c q body ρ M := by
  rw [evS.eq_14]; rfl
theorem E_brk {c : Cfg} {ρ : Sl} {M : Mem} : evS c .brk ρ M = .bk ρ M := by rw [evS.eq_15]
theorem E_cnt {c : Cfg} {ρ : Sl} {M : Mem} : evS c .cnt ρ M = .ct ρ M := by rw [evS.eq_16]
theorem E_pass {c : Cfg} {ρ : Sl} {M : Mem} : evS c .pass ρ M = .nx ρ M := by rw [evS.eq_17]
theorem E_raise {c : Cfg} {e : Nat} {ρ : Sl} {M : Mem} : evS c (.raise e) ρ M = .ex e ρ M := by rw [evS.eq_18]
def fzV : Sl → Nat → Option Sl
  | .ow _ d :: ρ, 0 => some (.fz d :: ρ)
  | .fz d :: ρ, 0 => some (.fz d :: ρ)
  | x :: ρ, i + 1 => (fzV ρ i).map (x :: ·)
  | _, _ => none
theorem fzV_ow {m : Md} {d : D} {ρ : Sl} : fzV (.ow m d :: ρ) 0 = some (.fz d :: ρ) := rfl
theorem fzV_fz {d : D} {ρ : Sl} : fzV (.fz d :: ρ) 0 = some (.fz d :: ρ) := rfl
theorem fzV_s {x : SV} {ρ : Sl} {i : Nat} : fzV (x :: ρ) (i + 1) = (fzV ρ i).map (x :: ·) := by cases x <;> rfl
theorem fzV_eq : ∀ {ρ : Sl} {i : Nat}, fzV ρ i = match ρ[i]? with | some (.ow _ d) => some (ρ.set i (.fz d)) | some (.fz _) => some ρ | _ => none
  | [], i => by simp [fzV]
  | x :: ρ, 0 => by cases x <;> rfl
  | x :: ρ, i + 1 => by
    rw [fzV_s, fzV_eq]
    simp only [List.getElem?_cons_succ, List.set_cons_succ]
    cases ρ[i]? with
    | none => rfl
    | some y => cases y <;> rfl
theorem E_freeze {c : Cfg} {i : Nat} {ρ : Sl} {M : Mem} : evS c (.freeze i) ρ M = kBd (fzV ρ i) M := by
  rw [evS.eq_19, fzV_eq]
  cases ρ[i]? with
  | none => rfl
  | some y => cases y <;> rfl
theorem E_kill {c : Cfg} {is : List Nat} {ρ : Sl} {M : Mem} : evS c (.kill is) ρ M = .nx (killS ρ is) M := by rw [evS.eq_20]
/-! expressions -/
theorem E_lit {c : Cfg} {d : D} {ρ : Sl} {M : Mem} : evE c (.lit d) ρ M = .ok d M := by rw [evE.eq_2]
theorem E_glob {c : Cfg} {k : Nat} {ρ : Sl} {M : Mem} : evE c (.glob k) ρ M = R.of c.consts[k]? M := by rw [evE.eq_3]
def kTup (x : R (List D)) : R D := x.bind fun ds M1 => .ok (.tup ds) M1
theorem kTup_ok {ds : List D} {M : Mem} : kTup (.ok ds M) = .ok (.tup ds) M := rfl
theorem kTup_ex {k : Nat} {M : Mem} : kTup (.ex k M) = .ex k M := rfl
theorem E_tup {c : Cfg} {es : List Ex} {ρ : Sl} {M : Mem} : evE c (.tup es) ρ M = kTup (evEs c es ρ M) := by rw [evE.eq_4]; rfl
def kLst (x : R (List D)) : R D := x.bind fun ds M1 => .ok (.lst ds) M1
theorem kLst_ok {ds : List D} {M : Mem} : kLst (.ok ds M) = .ok (.lst ds) M := rfl
theorem kLst_ex {k : Nat} {M : Mem} : kLst (.ex k M) = .ex k M := rfl
theorem E_lst {c : Cfg} {es : List Ex} {ρ : Sl} {M : Mem} : evE c (.lst es) ρ M = kLst (evEs c es ρ M) := by rw [evE.eq_5]; rfl
def kBin2 (o : BOp) (x : D) (r : R D) : R D := r.bind fun y M2 => R.of (binD o x y) M2
theorem kBin2_ok {o : BOp} {x y : D} {M : Mem} : kBin2 o x (.ok y M) = R.of (binD o x y) M := rfl
theorem kBin2_ex {o : BOp} {x : D} {k : Nat} {M : Mem} : kBin2 o x (.ex k M) = .ex k M := rfl
def kBin (c : Cfg) (o : BOp) (b : Ex) (ρ : Sl) (r : R D) : R D := r.bind fun x M1 => kBin2 o x (evE c b ρ M1)
theorem kBin_ok {c : Cfg} {o : BOp} {b : Ex} {ρ : Sl} {x : D} {M : Mem} : kBin c o b ρ (.ok x M) = kBin2 o x (evE c b ρ M) := rfl
theorem kBin_ex {c : Cfg} {o : BOp} {b : Ex} {ρ : Sl} {k : Nat} {M : Mem} : kBin c o b ρ (.ex k M) = .ex k M := rfl
theorem E_bin {c : Cfg} {o : BOp} {a b : Ex} {ρ : Sl} {M : Mem} : evE c (.bin o a b) ρ M = kBin c o b ρ (evE c a ρ M) := by rw [evE.eq_7]; rfl
def kNeg (r : R D) : R D := r.bind fun x M1 => match x with | .int i => .ok (.int (-i)) M1 | _ => .st
theorem kNeg_ok {i : Int} {M : Mem} : kNeg (.ok (.int i) M) = .ok (.int (-i)) M := rfl
theorem E_neg {c : Cfg} {a : Ex} {ρ : Sl} {M : Mem} : evE c (.neg a) ρ M = kNeg (evE c a ρ M) := by rw [evE.eq_8]; rfl
def kCmp2 (o : COp) (x : D) (r : R D) : R D := r.bind fun y M2 => R.of (cmpD o x y) M2
theorem kCmp2_ok {o : COp} {x y : D} {M : Mem} : kCmp2 o x (.ok y M) = R.of (cmpD o x y) M := rfl
theorem kCmp2_ex {o : COp} {x : D} {k : Nat} {M : Mem} : kCmp2 o x (.ex k M) = .ex k M := rfl
def kCmp (c : Cfg) (o : COp) (b : Ex) (ρ : Sl) (r : R D) : R D := r.bind fun x M1 => kCmp2 o x (evE c b ρ M1)
theorem kCmp_ok {c : Cfg} {o : COp} {b : Ex} {ρ : Sl} {x : D} {M : Mem} : kCmp c o b ρ (.ok x M) = kCmp2 o x (evE c b ρ M) := rfl
theorem kCmp_ex {c : Cfg} {o : COp} {b : Ex} {ρ : Sl} {k : Nat} {M : Mem} : kCmp c o b ρ (.ex k M) = .ex k M := rfl
theorem E_cmp {c : Cfg} {o : COp} {a b : Ex} {ρ : Sl} {M : Mem} : evE c (.cmp o a b) ρ M = kCmp c o b ρ (evE c a ρ M) := by rw [evE.eq_9]; rfl
def kCh3 (c : Cfg) (o2 : COp) (y : D) (d : Ex) (ρ : Sl) (r : R D) : R D := r.bind fun t M3 => match t with
  | .bl true => kCmp2 o2 y (evE c d ρ M3)
  | .bl false => .ok (.bl false) M3
  | _ => .st
theorem kCh3_t {c : Cfg} {o2 : COp} {y : D} {d : Ex} {ρ : Sl} {M : Mem} : kCh3 c o2 y d ρ (.ok (.bl true) M) = kCmp2 o2 y (evE c d ρ M) := rfl
theorem kCh3_f {c : Cfg} {o2 : COp} {y : D} {d : Ex} {ρ : Sl} {M : Mem} : kCh3 c o2 y d ρ (.ok (.bl false) M) = .ok (.bl false) M := rfl
def kCh2 (c : Cfg) (o o2 : COp) (x : D) (d : Ex) (ρ : Sl) (r : R D) : R D := r.bind fun y M2 => kCh3 c o2 y d ρ (R.of (cmpD o x y) M2)
theorem kCh2_ok {c : Cfg} {o o2 : COp} {x y : D} {d : Ex} {ρ : Sl} {M : Mem} : kCh2 c o o2 x d ρ (.ok y M) = kCh3 c o2 y d ρ (R.of (cmpD o x y) M) := rfl
def kCh1 (c : Cfg) (o o2 : COp) (b d : Ex) (ρ : Sl) (r : R D) : R D := r.bind fun x M1 => kCh2 c o o2 x d ρ (evE c b ρ M1)
theorem kCh1_ok {c : Cfg} {o o2 : COp} {x : D} {b d : Ex} {ρ : Sl} {M : Mem} : kCh1 c o o2 b d ρ (.ok x M) = kCh2 c o o2 x d ρ (evE c b ρ M) := rfl
theorem E_chain {c : Cfg} {o o2 : COp} {a b d : Ex} {ρ : Sl} {M : Mem} : evE c (.chain o o2 a b d) ρ M = kCh1 c o o2 b d ρ (evE c a ρ M) := by rw [evE.eq_10]; rfl
def kIsN (ng : Bool) (r : R D) : R D := r.bind fun x M1 => .ok (.bl (match x with | .non => !ng | _ => ng)) M1
theorem kIsN_non {ng : Bool} {M : Mem} : kIsN ng (.ok .non M) = .ok (.bl (!ng)) M := rfl
theorem kIsN_int {ng : Bool} {i : Int} {M : Mem} : kIsN ng (.ok (.int i) M) = .ok (.bl ng) M := rfl
theorem kIsN_bl {ng : Bool} {i : Bool} {M : Mem} : kIsN ng (.ok (.bl i) M) = .ok (.bl ng) M := rfl
theorem kIsN_str {ng : Bool} {i : Str} {M : Mem} : kIsN ng (.ok (.str i) M) = .ok (.bl ng) M := rfl
theorem kIsN_tup {ng : Bool} {i : List D} {M : Mem} : kIsN ng (.ok (.tup i) M) = .ok (.bl ng) M := rfl
theorem kIsN_lst {ng : Bool} {i : List D} {M : Mem} : kIsN ng (.ok (.lst i) M) = .ok (.bl ng) M := rfl
theorem kIsN_dic {ng : Bool} {t : Bool} {i : List (D × D)} {M : Mem} : kIsN ng (.ok (.dic t i) M) = .ok (.bl ng) M := rfl
theorem kIsN_ktup {ng : Bool} {i : List D} {M : Mem} : kIsN ng (.ok (.ktup i) M) = .ok (.bl ng) M := rfl
theorem E_isN {c : Cfg} {a : Ex} {ng : Bool} {ρ : Sl} {M : Mem} : evE c (.isN a ng) ρ M = kIsN ng (evE c a ρ M) := by rw [evE.eq_11]; rfl
theorem E_and {c : Cfg} {es : List Ex} {ρ : Sl} {M : Mem} : evE c (.and es) ρ M = evAnd c es ρ M := by rw [evE.eq_12]
theorem E_or {c : Cfg} {es : List Ex} {ρ : Sl} {M : Mem} : evE c (.or es) ρ M = evOr c es ρ M := by rw [evE.eq_13]
def kAnd2 (c : Cfg) (es : List Ex) (ρ : Sl) (d : D) (x : Option Bool) (M : Mem) : R D := match x with
  | some true => evAnd c es ρ M
  | some false => .ok d M
  | none => .st
theorem kAnd2_t {c : Cfg} {es : List Ex} {ρ : Sl} {d : D} {M : Mem} : kAnd2 c es ρ d (some true) M = evAnd c es ρ M := rfl
theorem kAnd2_f {c : Cfg} {es : List Ex} {ρ : Sl} {d : D} {M : Mem} : kAnd2 c es ρ d (some false) M = .ok d M := rfl
def kAnd (c : Cfg) (es : List Ex) (ρ : Sl) (r : R D) : R D := r.bind fun d M1 => kAnd2 c es ρ d (truth d) M1
theorem kAnd_ok {c : Cfg} {es : List Ex} {ρ : Sl} {d : D} {M : Mem} : kAnd c es ρ (.ok d M) = kAnd2 c es ρ d (truth d) M := rfl
theorem kAnd_ex {c : Cfg} {es : List Ex} {ρ : Sl} {k : Nat} {M : Mem} : kAnd c es ρ (.ex k M) = .ex k M := rfl
theorem E_and1 {c : Cfg} {e : Ex} {ρ : Sl} {M : Mem} : evAnd c [e] ρ M = evE c e ρ M := by
  unfold evAnd
  cases evE c e ρ M <;> rfl
theorem E_and2 {c : Cfg} {e e2 : Ex} {es : List Ex} {ρ : Sl} {M : Mem} : evAnd c (e :: e2 :: es) ρ M = kAnd c (e2 :: es) ρ (evE c e ρ M) := by
  rw [evAnd_cc]
  unfold kAnd
  congr 1
  funext d M1
  cases truth d with
  | none => rfl
  | some b => cases b <;> rfl
def kOr2 (c : Cfg) (es : List Ex) (ρ : Sl) (d : D) (x : Option Bool) (M : Mem) : R D := match x with
  | some true => .ok d M
  | some false => evOr c es ρ M
  | none => .st
theorem kOr2_f {c : Cfg} {es : List Ex} {ρ : Sl} {d : D} {M : Mem} : kOr2 c es ρ d (some false) M = evOr c es ρ M := rfl
theorem kOr2_t {c : Cfg} {es : List Ex} {ρ : Sl} {d : D} {M : Mem} : kOr2 c es ρ d (some true) M = .ok d M := rfl
def kOr (c : Cfg) (es : List Ex) (ρ : Sl) (r : R D) : R D := r.bind fun d M1 => kOr2 c es ρ d (truth d) M1
theorem kOr_ok {c : Cfg} {es : List Ex} {ρ : Sl} {d : D} {M : Mem} : kOr c es ρ (.ok d M) = kOr2 c es ρ d (truth d) M := rfl
theorem kOr_ex {c : Cfg} {es : List Ex} {ρ : Sl} {k : Nat} {M : Mem} : kOr c es ρ (.ex k M) = .ex k M := rfl
theorem E_or1 {c : Cfg} {e : Ex} {ρ : Sl} {M : Mem} : evOr c [e] ρ M = evE c e ρ M := by
  unfold evOr
  cases evE c e ρ M <;> rfl
theorem E_or2 {c : Cfg} {e e2 : Ex} {es : List Ex} {ρ : Sl} {M : Mem} : evOr c (e :: e2 :: es) ρ M = kOr c (e2 :: es) ρ (evE c e ρ M) := by
  rw [evOr_cc]
  unfold kOr
  congr 1
  funext d M1
  cases truth d with
  | none => rfl
  | some b => cases b <;> rfl
def kTru2 (x : Option Bool) (M : Mem) : R Bool := R.of x M
theorem kTru2_some {b : Bool} {M : Mem} : kTru2 (some b) M = .ok b M := rfl
def kTru (r : R D) : R Bool := r.bind fun d M1 => kTru2 (truth d) M1
theorem kTru_ok {d : D} {M : Mem} : kTru (.ok d M) = kTru2 (truth d) M := rfl
theorem kTru_ex {k : Nat} {M : Mem} : kTru (.ex k M) = .ex k M := rfl
theorem E_tst {c : Cfg} {e : Ex} {ρ : Sl} {M : Mem} : evT c e ρ M = kTru (evE c e ρ M) := rfl
def kNot (r : R Bool) : R D := r.bind fun b M2 => .ok (.bl (!b)) M2
theorem kNot_ok {b : Bool} {M : Mem} : kNot (.ok b M) = .ok (.bl (!b)) M := rfl
theorem kNot_ex {k : Nat} {M : Mem} : kNot (.ex k M) = .ex k M := rfl
theorem E_not {c : Cfg} {a : Ex} {ρ : Sl} {M : Mem} : evE c (.not a) ρ M = kNot (kTru (evE c a ρ M)) := by
  rw [evE.eq_14]
  cases evE c a ρ M <;> rfl
def kIte (c : Cfg) (a b : Ex) (ρ : Sl) (r : R Bool) : R D := r.bind fun t M2 => if t then evE c a ρ M2 else evE c b ρ M2
theorem kIte_t {c : Cfg} {a b : Ex} {ρ : Sl} {M : Mem} : kIte c a b ρ (.ok true M) = evE c a ρ M := rfl
theorem kIte_f {c : Cfg} {a b : Ex} {ρ : Sl} {M : Mem} : kIte c a b ρ (.ok false M) = evE c b ρ M := rfl
theorem E_ite {c : Cfg} {q a b : Ex} {ρ : Sl} {M : Mem} : evE c (.ite q a b) ρ M = kIte c a b ρ (kTru (evE c q ρ M)) := by
  rw [evE.eq_15]
  cases evE c q ρ M <;> rfl
def kIx2 (x : D) (r : R D) : R D := r.bind fun y M2 => R.of (ixD x y) M2
theorem kIx2_ok {x y : D} {M : Mem} : kIx2 x (.ok y M) = R.of (ixD x y) M := rfl
theorem kIx2_ex {x : D} {k : Nat} {M : Mem} : kIx2 x (.ex k M) = .ex k M := rfl
def kIx (c : Cfg) (b : Ex) (ρ : Sl) (r : R D) : R D := r.bind fun x M1 => kIx2 x (evE c b ρ M1)
theorem kIx_ok {c : Cfg} {b : Ex} {ρ : Sl} {x : D} {M : Mem} : kIx c b ρ (.ok x M) = kIx2 x (evE c b ρ M) := rfl
theorem kIx_ex {c : Cfg} {b : Ex} {ρ : Sl} {k : Nat} {M : Mem} : kIx c b ρ (.ex k M) = .ex k M := rfl
theorem E_ix {c : Cfg} {a b : Ex} {ρ : Sl} {M : Mem} : evE c (.ix a b) ρ M = kIx c b ρ (evE c a ρ M) := by rw [evE.eq_16]; rfl
def kSl4 (x : D) (l u : Option Int) (M : Mem) : R D := R.of (slD x l u) M
def kSl3 (x : D) (l : Option Int) (o : Option (Option Int)) (M : Mem) : R D := match o with
  | some u => R.of (slD x l u) M
  | none => .st
theorem kSl3_some {x : D} {l u : Option Int} {M : Mem} : kSl3 x l (some u) M = R.of (slD x l u) M := rfl
def kSl2b (hi : Ex) (x : D) (l : Option Int) (r : R D) : R D := r.bind fun z M4 => kSl3 x l (partX hi z) M4
theorem kSl2b_ok {hi : Ex} {x z : D} {l : Option Int} {M : Mem} : kSl2b hi x l (.ok z M) = kSl3 x l (partX hi z) M := rfl
def kSl2a (c : Cfg) (hi : Ex) (ρ : Sl) (x : D) (o : Option (Option Int)) (M : Mem) : R D := match o with
  | some l => kSl2b hi x l (evE c hi ρ M)
  | none => .st
theorem kSl2a_some {c : Cfg} {hi : Ex} {ρ : Sl} {x : D} {l : Option Int} {M : Mem} : kSl2a c hi ρ x (some l) M = kSl2b hi x l (evE c hi ρ M) := rfl
def kSl1 (c : Cfg) (lo hi : Ex) (ρ : Sl) (x : D) (r : R D) : R D := r.bind fun y M2 => kSl2a c hi ρ x (partX lo y) M2
theorem kSl1_ok {c : Cfg} {lo hi : Ex} {ρ : Sl} {x y : D} {M : Mem} : kSl1 c lo hi ρ x (.ok y M) = kSl2a c hi ρ x (partX lo y) M := rfl
def kSl (c : Cfg) (lo hi : Ex) (ρ : Sl) (r : R D) : R D := r.bind fun x M1 => kSl1 c lo hi ρ x (evE c lo ρ M1)
theorem kSl_ok {c : Cfg} {lo hi : Ex} {ρ : Sl} {x : D} {M : Mem} : kSl c lo hi ρ (.ok x M) = kSl1 c lo hi ρ x (evE c lo ρ M) := rfl
theorem E_sl {c : Cfg} {a lo hi : Ex} {ρ : Sl} {M : Mem} : evE c (.sl a lo hi) ρ M = kSl c lo hi ρ (evE c a ρ M) := by
  rw [evE.eq_17]
  unfold kSl kSl1 kSl2a kSl2b kSl3
  congr 1
  funext x M1
  congr 1
  funext y M2
  cases partX lo y with
  | none => rfl
  | some l =>
    simp only [R.of_some, R.bind_ok]
    congr 1
    funext z M3
    cases partX hi z <;> rfl
def kC2 (r : R (Md × D)) : R D := r.bind fun r M2 => .ok r.2 M2
theorem kC2_ok {m : Md} {d : D} {M : Mem} : kC2 (.ok (m, d) M) = .ok d M := rfl
theorem kC2_ex {k : Nat} {M : Mem} : kC2 (.ex k M) = .ex k M := rfl
def kCall (c : Cfg) (f : Nat) (r : R (List D)) : R (Md × D) := r.bind fun ds M1 => c.call f ds M1
theorem kCall_ok {P : Prog} {n f : Nat} {ds : List D} {M : Mem} : kCall (cfgN P n) f (.ok ds M) = callN P n f ds M := rfl
theorem kCall_ex {c : Cfg} {f k : Nat} {M : Mem} : kCall c f (.ex k M) = .ex k M := rfl
theorem E_call {c : Cfg} {f : Nat} {es : List Ex} {ρ : Sl} {M : Mem} : evE c (.call f es) ρ M = kC2 (kCall c f (evEs c es ρ M)) := by
  rw [evE.eq_18]
  cases evEs c es ρ M <;> rfl
def kBlt (b : Blt) (r : R (List D)) : R D := r.bind fun ds M1 => R.of (bltD b ds) M1
theorem kBlt_ok {b : Blt} {ds : List D} {M : Mem} : kBlt b (.ok ds M) = R.of (bltD b ds) M := rfl
theorem kBlt_ex {b : Blt} {k : Nat} {M : Mem} : kBlt b (.ex k M) = .ex k M := rfl
theorem evRs_eq {c : Cfg} {ρ : Sl} : ∀ {es : List Ex} {M : Mem}, evRs c es ρ M = evEs c es ρ M
  | [], M => by rw [evRs.eq_1, evEs.eq_1]
  | e :: es, M => by
    rw [evRs.eq_2, evEs.eq_2]
    congr 1
    funext d M1
    rw [evRs_eq]
theorem E_blt {c : Cfg} {b : Blt} {es : List Ex} {ρ : Sl} {M : Mem} : evE c (.blt b es) ρ M = kBlt b (evEs c es ρ M) := by rw [evE.eq_19, evRs_eq]; rfl
def kIsi2 (x : Option Bool) (M : Mem) : R D := match x with | some b => .ok (.bl b) M | none => .st
theorem kIsi2_some {b : Bool} {M : Mem} : kIsi2 (some b) M = .ok (.bl b) M := rfl
def kIsi (t : Ty) (r : R D) : R D := r.bind fun x M1 => kIsi2 (isiD t x) M1
theorem kIsi_ok {t : Ty} {x : D} {M : Mem} : kIsi t (.ok x M) = kIsi2 (isiD t x) M := rfl
theorem E_isi {c : Cfg} {a : Ex} {t : Ty} {ρ : Sl} {M : Mem} : evE c (.isi a t) ρ M = kIsi t (evE c a ρ M) := by
  rw [evE.eq_21]
  unfold kIsi
  congr 1
  funext x M1
  cases isiD t x <;> rfl
def cmpB (c : Cfg) (elt : Ex) (p : Pt) (conds : List Ex) (ρ0 : Sl) : D → Mem → R (Option D) := fun d M3 => match bindP p d ρ0 with
  | some ρ' => (evAll c conds ρ' M3).bind fun b M4 => if b then (evE c elt ρ' M4).bind fun y M5 => .ok (some y) M5 else .ok none M4
  | none => .st
def kCp1 (c : Cfg) (elt : Ex) (ρ : Sl) (r : R Bool) : R (Option D) := r.bind fun b M4 => if b then (evE c elt ρ M4).bind fun y M5 => .ok (some y) M5 else .ok none M4
def kCp2 (r : R D) : R (Option D) := r.bind fun y M5 => .ok (some y) M5
theorem kCp2_ok {y : D} {M : Mem} : kCp2 (.ok y M) = .ok (some y) M := rfl
theorem kCp1_t {c : Cfg} {elt : Ex} {ρ : Sl} {M : Mem} : kCp1 c elt ρ (.ok true M) = kCp2 (evE c elt ρ M) := rfl
theorem kCp1_f {c : Cfg} {elt : Ex} {ρ : Sl} {M : Mem} : kCp1 c elt ρ (.ok false M) = .ok none M := rfl
def kCp0 (c : Cfg) (elt : Ex) (conds : List Ex) (M : Mem) (o : Option Sl) : R (Option D) := match o with
  | some ρ' => kCp1 c elt ρ' (evAll c conds ρ' M)
  | none => .st
theorem kCp0_some {c : Cfg} {elt : Ex} {conds : List Ex} {M : Mem} {ρ : Sl} : kCp0 c elt conds M (some ρ) = kCp1 c elt ρ (evAll c conds ρ M) := rfl
theorem cmpB_eq {c : Cfg} {elt : Ex} {p : Pt} {conds : List Ex} {ρ0 : Sl} {d : D} {M : Mem} : cmpB c elt p conds ρ0 d M = kCp0 c elt conds M (bindP p d ρ0) := by
  unfold cmpB kCp0
  cases bindP p d ρ0 <;> rfl
def kLc (r : R (List D)) : R D := r.nox.bind fun r M3 => .ok (.lst r) M3
theorem kLc_ok {ds : List D} {M : Mem} : kLc (.ok ds M) = .ok (.lst ds) M := rfl
def kCm2 (c : Cfg) (elt : Ex) (p : Pt) (conds : List Ex) (ρ0 : Sl) (x : Option (List D)) (M : Mem) : R D := match x with
  | some items => kLc (compL (cmpB c elt p conds ρ0) items M)
  | none => .st
theorem kCm2_some {c : Cfg} {elt : Ex} {p : Pt} {conds : List Ex} {ρ0 : Sl} {items : List D} {M : Mem} : kCm2 c elt p conds ρ0 (some items) M = kLc (compL (cmpB c elt p conds ρ0) items M) := rfl
def kCm (c : Cfg) (elt : Ex) (p : Pt) (k : ItK) (conds : List Ex) (ρ0 : Sl) (r : R (List D)) : R D := r.bind fun ds M1 => kCm2 c elt p conds ρ0 (itD k ds) M1
theorem kCm_ok {c : Cfg} {elt : Ex} {p : Pt} {k : ItK} {conds : List Ex} {ρ0 : Sl} {ds : List D} {M : Mem} : kCm c elt p k conds ρ0 (.ok ds M) = kCm2 c elt p conds ρ0 (itD k ds) M := rfl
theorem E_comp {c : Cfg} {elt : Ex} {p : Pt} {k : ItK} {args conds : List Ex} {own : List Nat} {ρ : Sl} {M : Mem} : evE c (.comp elt p k args conds own) ρ M = kCm c elt p k conds (killS ρ own) (evEs c args ρ M) := by
  rw [evE.eq_22]
  unfold kCm
  congr 1
  funext ds M1
  cases itD k ds <;> rfl
theorem E_bor {c : Cfg} {e : Ex} {ρ : Sl} {M : Mem} : evE c (.bor e) ρ M = borR M D.noL (evE c e (viewS ρ) M) := by rw [evE.eq_23]
def kEs2 (d : D) (r : R (List D)) : R (List D) := r.bind fun ds M2 => .ok (d :: ds) M2
theorem kEs2_ok {d : D} {ds : List D} {M : Mem} : kEs2 d (.ok ds M) = .ok (d :: ds) M := rfl
theorem kEs2_ex {d : D} {k : Nat} {M : Mem} : kEs2 d (.ex k M) = .ex k M := rfl
def kEs (c : Cfg) (es : List Ex) (ρ : Sl) (r : R D) : R (List D) := r.bind fun d M1 => kEs2 d (evEs c es ρ M1)
theorem kEs_ok {c : Cfg} {es : List Ex} {ρ : Sl} {d : D} {M : Mem} : kEs c es ρ (.ok d M) = kEs2 d (evEs c es ρ M) := rfl
theorem kEs_ex {c : Cfg} {es : List Ex} {ρ : Sl} {k : Nat} {M : Mem} : kEs c es ρ (.ex k M) = .ex k M := rfl
theorem E_es0 {c : Cfg} {ρ : Sl} {M : Mem} : evEs c [] ρ M = .ok [] M := by rw [evEs.eq_1]
theorem E_es {c : Cfg} {e : Ex} {es : List Ex} {ρ : Sl} {M : Mem} : evEs c (e :: es) ρ M = kEs c es ρ (evE c e ρ M) := by rw [evEs.eq_2]; rfl
theorem E_all0 {c : Cfg} {ρ : Sl} {M : Mem} : evAll c [] ρ M = .ok true M := by rw [evAll.eq_1]
theorem E_all1 {c : Cfg} {e : Ex} {ρ : Sl} {M : Mem} : evAll c [e] ρ M = kTru (evE c e ρ M) := by
  rw [evAll.eq_2]
  unfold kTru
  congr 1
  funext d M1
  cases truth d with
  | none => rfl
  | some b =>
    show (if b = true then evAll c [] ρ M1 else .ok false M1) = .ok b M1
    cases b
    · rfl
    · rw [evAll.eq_1]; rfl
/-! list(range(..)), dicts -/
def kLr2 (x : Option (List D)) (M : Mem) : R D := match x with | some its => .ok (.lst its) M | none => .st
theorem kLr2_some {its : List D} {M : Mem} : kLr2 (some its) M = .ok (.lst its) M := rfl
def kLr (r : R (List D)) : R D := r.bind fun ds M1 => kLr2 (itD (if ds.length = 1 then .rng1 else .rng2) ds) M1
theorem kLr_1 {d : D} {M : Mem} : kLr (.ok [d] M) = kLr2 (itD .rng1 [d]) M := rfl
theorem kLr_2 {d e : D} {M : Mem} : kLr (.ok [d, e] M) = kLr2 (itD .rng2 [d, e]) M := rfl
theorem E_lrng {c : Cfg} {es : List Ex} {ρ : Sl} {M : Mem} : evE c (.lrng es) ρ M = kLr (evEs c es ρ M) := by
  rw [evE.eq_24]
  unfold kLr
  congr 1
  funext ds M1
  cases itD (if ds.length = 1 then .rng1 else .rng2) ds <;> rfl
/-- at a key -/
def atK (t : Bool) (y : D) (kvs : List (D × D)) (z : Option D → R D) : R D := if okK t y = true then z (lookD y kvs) else .st
def kG3 (x : Option D) (r : R D) : R D := r.bind fun z M3 => .ok (x.getD z) M3
theorem kG3_ok {x : Option D} {z : D} {M : Mem} : kG3 x (.ok z M) = .ok (x.getD z) M := rfl
def kG2 (c : Cfg) (t : Bool) (kvs : List (D × D)) (ρ : Sl) (o : Option Ex) (r : R D) : R D := r.bind fun y M2 => atK t y kvs fun x => match o with
  | none => .ok (x.getD .non) M2
  | some e => kG3 x (evE c e ρ M2)
theorem kG2_n {c : Cfg} {t : Bool} {kvs : List (D × D)} {ρ : Sl} {y : D} {M : Mem} (h : okK t y = true) : kG2 c t kvs ρ none (.ok y M) = .ok ((lookD y kvs).getD .non) M := by
  unfold kG2 atK; rw [R.bind_ok, if_pos h]
theorem kG2_s {c : Cfg} {t : Bool} {kvs : List (D × D)} {ρ : Sl} {e : Ex} {y : D} {M : Mem} (h : okK t y = true) : kG2 c t kvs ρ (some e) (.ok y M) = kG3 (lookD y kvs) (evE c e ρ M) := by
  unfold kG2 atK; rw [R.bind_ok, if_pos h]
def kG1 (c : Cfg) (k : Ex) (o : Option Ex) (ρ : Sl) (r : R D) : R D := r.bind fun x M1 => match x with
  | .dic t kvs => kG2 c t kvs ρ o (evE c k ρ M1)
  | _ => .st
theorem kG1_ok {c : Cfg} {k : Ex} {o : Option Ex} {ρ : Sl} {t : Bool} {kvs : List (D × D)} {M : Mem} : kG1 c k o ρ (.ok (.dic t kvs) M) = kG2 c t kvs ρ o (evE c k ρ M) := rfl
theorem E_dget {c : Cfg} {d k : Ex} {o : Option Ex} {ρ : Sl} {M : Mem} : evE c (.dget d k o) ρ M = kG1 c k o ρ (evE c d ρ M) := by
  rw [evE.eq_25]
  unfold kG1
  congr 1
def kX2 (t : Bool) (kvs : List (D × D)) (r : R D) : R D := r.bind fun y M2 => atK t y kvs fun x => R.of x M2
theorem kX2_ok {t : Bool} {kvs : List (D × D)} {y : D} {M : Mem} (h : okK t y = true) : kX2 t kvs (.ok y M) = R.of (lookD y kvs) M := by
  unfold kX2 atK; rw [R.bind_ok, if_pos h]
def kX1 (c : Cfg) (k : Ex) (ρ : Sl) (r : R D) : R D := r.bind fun x M1 => match x with
  | .dic t kvs => kX2 t kvs (evE c k ρ M1)
  | _ => .st
theorem kX1_ok {c : Cfg} {k : Ex} {ρ : Sl} {t : Bool} {kvs : List (D × D)} {M : Mem} : kX1 c k ρ (.ok (.dic t kvs) M) = kX2 t kvs (evE c k ρ M) := rfl
theorem E_dix {c : Cfg} {d k : Ex} {ρ : Sl} {M : Mem} : evE c (.dix d k) ρ M = kX1 c k ρ (evE c d ρ M) := by
  rw [evE.eq_26]
  unfold kX1
  congr 1
def kN2 (y : D) (ng : Bool) (r : R D) : R D := r.bind fun x M2 => match x with
  | .dic t kvs => atK t y kvs fun x => .ok (.bl (x.isSome != ng)) M2
  | _ => .st
theorem kN2_ok {y : D} {ng t : Bool} {kvs : List (D × D)} {M : Mem} (h : okK t y = true) : kN2 y ng (.ok (.dic t kvs) M) = .ok (.bl ((lookD y kvs).isSome != ng)) M := by
  unfold kN2 atK; rw [R.bind_ok]; exact if_pos h
def kN1 (c : Cfg) (d : Ex) (ng : Bool) (ρ : Sl) (r : R D) : R D := r.bind fun y M1 => kN2 y ng (evE c d ρ M1)
theorem kN1_ok {c : Cfg} {d : Ex} {ng : Bool} {ρ : Sl} {y : D} {M : Mem} : kN1 c d ng ρ (.ok y M) = kN2 y ng (evE c d ρ M) := rfl
theorem E_din {c : Cfg} {k d : Ex} {ng : Bool} {ρ : Sl} {M : Mem} : evE c (.din k d ng) ρ M = kN1 c d ng ρ (evE c k ρ M) := by
  rw [evE.eq_27]
  unfold kN1
  congr 1
def kDs3 (i : Nat) (t : Bool) (kvs : List (D × D)) (x : D) (ρ : Sl) (r : R D) : RS := r.to ρ fun y M2 => if kvs.length < sizeLine ∧ okK t y = true then .nx (ρ.set i (.ow (.s .z) (.dic t (putD y x kvs)))) M2 else .st
theorem kDs3_ok {i : Nat} {t : Bool} {kvs : List (D × D)} {x y : D} {ρ : Sl} {M : Mem} (h : kvs.length < 16777216) (h2 : okK t y = true) : kDs3 i t kvs x ρ (.ok y M) = .nx (ρ.set i (.ow (.s .z) (.dic t (putD y x kvs)))) M := by
  show (if _ then _ else _) = _
  rw [if_pos ⟨by rw [sizeLine_eq]; exact h, h2⟩]
def kDs2 (c : Cfg) (i : Nat) (k : Ex) (t : Bool) (kvs : List (D × D)) (ρ : Sl) (r : R D) : RS := r.to ρ fun x M1 => kDs3 i t kvs x ρ (evE c k ρ M1)
theorem kDs2_ok {c : Cfg} {i : Nat} {k : Ex} {t : Bool} {kvs : List (D × D)} {ρ : Sl} {x : D} {M : Mem} : kDs2 c i k t kvs ρ (.ok x M) = kDs3 i t kvs x ρ (evE c k ρ M) := rfl
theorem kDs2_ex {c : Cfg} {i : Nat} {k : Ex} {t : Bool} {kvs : List (D × D)} {ρ : Sl} {e : Nat} {M : Mem} : kDs2 c i k t kvs ρ (.ex e M) = .ex e ρ M := rfl
def kDs1 (c : Cfg) (i : Nat) (k v : Ex) (ρ : Sl) (M : Mem) (x : Option (Md × D)) : RS := match x with
  | some (.s .z, .dic t kvs) => kDs2 c i k t kvs ρ (evE c v ρ M)
  | _ => .st
theorem kDs1_some {c : Cfg} {i : Nat} {k v : Ex} {ρ : Sl} {M : Mem} {t : Bool} {kvs : List (D × D)} : kDs1 c i k v ρ M (some (.s .z, .dic t kvs)) = kDs2 c i k t kvs ρ (evE c v ρ M) := rfl
theorem E_dset {c : Cfg} {i : Nat} {k v : Ex} {ρ : Sl} {M : Mem} : evS c (.dset i k v) ρ M = kDs1 c i k v ρ M (getO ρ i) := by
  rw [evS.eq_25, getO_eq]
  cases e : ρ[i]? with
  | none => rfl
  | some s =>
    cases s with
    | un => rfl
    | fz d => rfl
    | ow m d =>
      cases d <;> try (cases m <;> first | rfl | (rename_i m; cases m <;> rfl))
/-! walks over dicts, pop and clear as statements, two walks -/
def kNex (r : RS) : RS := noexS r
theorem kNex_nx {ρ : Sl} {M : Mem} : kNex (.nx ρ M) = .nx ρ M := rfl
theorem kNex_rt {d : Md × D} {M : Mem} : kNex (.rt d M) = .rt d M := rfl
noncomputable def kFk (c : Cfg) (p : Pt) (body : List Sm) (ρ : Sl) (r : R D) : RS := match r with
  | .ok (.dic _ kvs) M => kNex (forL (forB c p body) (kvs.map (·.1)) ρ M)
  | _ => .st
theorem kFk_dic {c : Cfg} {p : Pt} {body : List Sm} {ρ : Sl} {t : Bool} {kvs : List (D × D)} {M : Mem} : kFk c p body ρ (.ok (.dic t kvs) M) = kNex (forL (forB c p body) (kvs.map (·.1)) ρ M) := rfl
theorem E_forK {c : Cfg} {p : Pt} {i : Nat} {body : List Sm} {ρ : Sl} {M : Mem} : evS c (.forK p i body) ρ M = kFk c p body ρ (rdV ρ i M) := by
  rw [evS.eq_22, rdV_eq]
  cases ρ[i]? with
  | none => rfl
  | some s =>
    cases s with
    | un => rfl
    | ow _ _ => rfl
    | fz d => cases d <;> rfl
def kPs5 (i : Nat) (m : Md) (d : D) (ks ds : List D) (j : Int) (ρ : Sl) (M : Mem) (o : Option Nat) : RS := match o with
  | some n => if -(2 ^ 63) ≤ j ∧ j < 2 ^ 63 then .nx (ρ.set i (.ow m (setP d ks (.lst (ds.eraseIdx n))))) M else .st
  | none => .st
theorem kPs5_some {i : Nat} {m : Md} {d : D} {ks ds : List D} {j : Int} {ρ : Sl} {M : Mem} {n : Nat} (h : -9223372036854775808 ≤ j ∧ j < 9223372036854775808) : kPs5 i m d ks ds j ρ M (some n) = .nx (ρ.set i (.ow m (setP d ks (.lst (ds.eraseIdx n))))) M := by
  show (if _ then _ else _) = _
  exact if_pos (by omega)
def kPs4 (i : Nat) (m : Md) (d : D) (ks : List D) (x : D) (ρ : Sl) (M : Mem) (o : Option (List D)) : RS := match o, x with
  | some ds, .int j => kPs5 i m d ks ds j ρ M (L2.ixN ds.length j)
  | _, _ => .st
theorem kPs4_some {i : Nat} {m : Md} {d : D} {ks ds : List D} {j : Int} {ρ : Sl} {M : Mem} : kPs4 i m d ks (.int j) ρ M (some ds) = kPs5 i m d ks ds j ρ M (L2.ixN ds.length j) := rfl
def kPs3 (i : Nat) (m : Md) (d : D) (ks : List D) (ρ : Sl) (r : R D) : RS := r.to ρ fun x M2 => kPs4 i m d ks x ρ M2 (getL d ks)
theorem kPs3_ok {i : Nat} {m : Md} {d : D} {ks : List D} {ρ : Sl} {x : D} {M : Mem} : kPs3 i m d ks ρ (.ok x M) = kPs4 i m d ks x ρ M (getL d ks) := rfl
def kPs2 (c : Cfg) (k : Option Ex) (i : Nat) (m : Md) (d : D) (ks : List D) (ρ : Sl) (M : Mem) (b : Bool) : RS := if b = true then kPs3 i m d ks ρ (evE c (k.getD (.lit (.int (-1)))) ρ M) else .st
theorem kPs2_n {c : Cfg} {i : Nat} {m : Md} {d : D} {ks : List D} {ρ : Sl} {M : Mem} : kPs2 c none i m d ks ρ M true = kPs3 i m d ks ρ (.ok (.int (-1)) M) := by
  show kPs3 i m d ks ρ (evE c (.lit (.int (-1))) ρ M) = _
  rw [evE.eq_2]
theorem kPs2_s {c : Cfg} {k : Ex} {i : Nat} {m : Md} {d : D} {ks : List D} {ρ : Sl} {M : Mem} : kPs2 c (some k) i m d ks ρ M true = kPs3 i m d ks ρ (evE c k ρ M) := rfl
def kPs1 (c : Cfg) (k : Option Ex) (i : Nat) (m : Md) (d : D) (ρ : Sl) (r : R (List D)) : RS := r.nox.to ρ fun ks M1 => kPs2 c k i m d ks ρ M1 (pathB m d ks)
theorem kPs1_ok {c : Cfg} {k : Option Ex} {i : Nat} {m : Md} {d : D} {ρ : Sl} {ks : List D} {M : Mem} : kPs1 c k i m d ρ (.ok ks M) = kPs2 c k i m d ks ρ M (pathB m d ks) := rfl
def kPs0 (c : Cfg) (ps : List Ex) (k : Option Ex) (i : Nat) (ρ : Sl) (M : Mem) (o : Option (Md × D)) : RS := match o with
  | some (m, d) => kPs1 c k i m d ρ (evEs c ps ρ M)
  | none => .st
theorem kPs0_some {c : Cfg} {ps : List Ex} {k : Option Ex} {i : Nat} {ρ : Sl} {M : Mem} {m : Md} {d : D} : kPs0 c ps k i ρ M (some (m, d)) = kPs1 c k i m d ρ (evEs c ps ρ M) := rfl
theorem E_popS {c : Cfg} {i : Nat} {ps : List Ex} {k : Option Ex} {ρ : Sl} {M : Mem} : evS c (.popS i ps k) ρ M = kPs0 c ps k i ρ M (getO ρ i) := by
  rw [evS.eq_23, getO_eq]
  cases e : ρ[i]? with
  | none => rfl
  | some x =>
    cases x with
    | ow m d =>
      show _ = kPs1 c k i m d ρ (evEs c ps ρ M)
      unfold kPs1 kPs2 kPs3
      dsimp only
      congr 1
      funext ks M1
      split
      · congr 1
        funext x M2
        unfold getL kPs4
        cases e2 : getP d ks with
        | none => rfl
        | some y =>
          cases y <;> try rfl
          rename_i ds
          cases x <;> try rfl
      · rfl
    | _ => rfl
def kTr (sub : Nat → Nat → Option Bool) (hs : List Hd) (r : RS) : RS := tryR sub hs r
theorem kTr_nx {sub : Nat → Nat → Option Bool} {hs : List Hd} {ρ : Sl} {M : Mem} : kTr sub hs (.nx ρ M) = .nx ρ M := rfl
theorem kTr_rt {sub : Nat → Nat → Option Bool} {hs : List Hd} {d : Md × D} {M : Mem} : kTr sub hs (.rt d M) = .rt d M := rfl
theorem kTr_ex {sub : Nat → Nat → Option Bool} {hs : List Hd} {k : Nat} {ρ : Sl} {M : Mem} : kTr sub hs (.ex k ρ M) = hdR sub k hs ρ M := rfl
theorem E_try {c : Cfg} {body : List Sm} {hs : List Hd} {ρ : Sl} {M : Mem} : evS c (.try_ body hs) ρ M = kTr c.sub hs (evSs c body ρ M) := by
  unfold evS
  rfl
def kPp6 (p : Pt) (i : Nat) (m : Md) (d : D) (ks ds : List D) (j : Int) (ρ : Sl) (M : Mem) (n : Nat) (o : Option D) : RS := match o with
  | some y => if y.isLD = false ∧ -(2 ^ 63) ≤ j ∧ j < 2 ^ 63 then kBd (bindP p y (ρ.set i (.ow m (setP d ks (.lst (ds.eraseIdx n)))))) M else .st
  | none => .st
theorem kPp6_some {p : Pt} {i : Nat} {m : Md} {d : D} {ks ds : List D} {j : Int} {ρ : Sl} {M : Mem} {n : Nat} {y : D} (h0 : y.isLD = false) (h : -9223372036854775808 ≤ j ∧ j < 9223372036854775808) : kPp6 p i m d ks ds j ρ M n (some y) = kBd (bindP p y (ρ.set i (.ow m (setP d ks (.lst (ds.eraseIdx n)))))) M := by
  show (if _ then _ else _) = _
  exact if_pos ⟨h0, by omega⟩
def kPp5 (p : Pt) (i : Nat) (m : Md) (d : D) (ks ds : List D) (j : Int) (ρ : Sl) (M : Mem) (o : Option Nat) : RS := match o with
  | some n => kPp6 p i m d ks ds j ρ M n ds[n]?
  | none => .st
theorem kPp5_some {p : Pt} {i : Nat} {m : Md} {d : D} {ks ds : List D} {j : Int} {ρ : Sl} {M : Mem} {n : Nat} : kPp5 p i m d ks ds j ρ M (some n) = kPp6 p i m d ks ds j ρ M n ds[n]? := rfl
def kPp4 (p : Pt) (i : Nat) (m : Md) (d : D) (ks : List D) (x : D) (ρ : Sl) (M : Mem) (o : Option (List D)) : RS := match o, x with
  | some ds, .int j => kPp5 p i m d ks ds j ρ M (L2.ixN ds.length j)
  | _, _ => .st
theorem kPp4_some {p : Pt} {i : Nat} {m : Md} {d : D} {ks ds : List D} {j : Int} {ρ : Sl} {M : Mem} : kPp4 p i m d ks (.int j) ρ M (some ds) = kPp5 p i m d ks ds j ρ M (L2.ixN ds.length j) := rfl
def kPp3 (p : Pt) (i : Nat) (m : Md) (d : D) (ks : List D) (ρ : Sl) (r : R D) : RS := r.to ρ fun x M2 => kPp4 p i m d ks x ρ M2 (getL d ks)
theorem kPp3_ok {p : Pt} {i : Nat} {m : Md} {d : D} {ks : List D} {ρ : Sl} {x : D} {M : Mem} : kPp3 p i m d ks ρ (.ok x M) = kPp4 p i m d ks x ρ M (getL d ks) := rfl
def kPp2 (c : Cfg) (p : Pt) (k : Option Ex) (i : Nat) (m : Md) (d : D) (ks : List D) (ρ : Sl) (M : Mem) (b : Bool) : RS := if b = true then kPp3 p i m d ks ρ (evE c (k.getD (.lit (.int (-1)))) ρ M) else .st
theorem kPp2_n {c : Cfg} {p : Pt} {i : Nat} {m : Md} {d : D} {ks : List D} {ρ : Sl} {M : Mem} : kPp2 c p none i m d ks ρ M true = kPp3 p i m d ks ρ (.ok (.int (-1)) M) := by
  show kPp3 p i m d ks ρ (evE c (.lit (.int (-1))) ρ M) = _
  rw [evE.eq_2]
theorem kPp2_s {c : Cfg} {p : Pt} {k : Ex} {i : Nat} {m : Md} {d : D} {ks : List D} {ρ : Sl} {M : Mem} : kPp2 c p (some k) i m d ks ρ M true = kPp3 p i m d ks ρ (evE c k ρ M) := rfl
def kPp1 (c : Cfg) (p : Pt) (k : Option Ex) (i : Nat) (m : Md) (d : D) (ρ : Sl) (r : R (List D)) : RS := r.nox.to ρ fun ks M1 => kPp2 c p k i m d ks ρ M1 (pathB m d ks)
theorem kPp1_ok {c : Cfg} {p : Pt} {k : Option Ex} {i : Nat} {m : Md} {d : D} {ρ : Sl} {ks : List D} {M : Mem} : kPp1 c p k i m d ρ (.ok ks M) = kPp2 c p k i m d ks ρ M (pathB m d ks) := rfl
def kPp0 (c : Cfg) (p : Pt) (ps : List Ex) (k : Option Ex) (i : Nat) (ρ : Sl) (M : Mem) (o : Option (Md × D)) : RS := match o with
  | some (m, d) => kPp1 c p k i m d ρ (evEs c ps ρ M)
  | none => .st
theorem kPp0_some {c : Cfg} {p : Pt} {ps : List Ex} {k : Option Ex} {i : Nat} {ρ : Sl} {M : Mem} {m : Md} {d : D} : kPp0 c p ps k i ρ M (some (m, d)) = kPp1 c p k i m d ρ (evEs c ps ρ M) := rfl
theorem E_popK {c : Cfg} {p : Pt} {i : Nat} {ps : List Ex} {k : Option Ex} {ρ : Sl} {M : Mem} : evS c (.pop p i ps k) ρ M = kPp0 c p ps k i ρ M (getO ρ i) := by
  rw [evS.eq_5, getO_eq]
  cases e : ρ[i]? with
  | none => rfl
  | some x =>
    cases x with
    | ow m d =>
      show _ = kPp1 c p k i m d ρ (evEs c ps ρ M)
      unfold kPp1 kPp2 kPp3
      dsimp only
      congr 1
      funext ks M1
      split
      · congr 1
        funext x M2
        unfold getL kPp4
        cases e2 : getP d ks with
        | none => rfl
        | some y =>
          cases y <;> try rfl
          rename_i ds
          cases x <;> try rfl
      · rfl
    | _ => rfl
def kCl2 (ρ : Sl) (M : Mem) : Md × D → RS
  | (.z, _) => .st
  | (_, .lst _) => .nx ρ M
  | _ => .st
theorem kCl2_all {ρ : Sl} {M : Mem} {ds : List D} : kCl2 ρ M (.all, .lst ds) = .nx ρ M := rfl
theorem kCl2_s {ρ : Sl} {M : Mem} {m : Md} {ds : List D} : kCl2 ρ M (.s m, .lst ds) = .nx ρ M := rfl
def kCl (ρ : Sl) (r : R (Md × D)) : RS := r.to ρ fun r M1 => kCl2 ρ M1 r
theorem kCl_ok {ρ : Sl} {r : Md × D} {M : Mem} : kCl ρ (.ok r M) = kCl2 ρ M r := rfl
theorem kCl_ex {ρ : Sl} {k : Nat} {M : Mem} : kCl ρ (.ex k M) = .ex k ρ M := rfl
theorem E_clr {c : Cfg} {a : Ax} {ρ : Sl} {M : Mem} : evS c (.clr a) ρ M = kCl ρ (evA c a ρ M) := by
  rw [evS.eq_24]
  unfold kCl kCl2
  congr 1
/-- the inner walk of two -/
def cmpO (c : Cfg) (elt : Ex) (p : Pt) (conds : List Ex) (p2 : Pt) (k2 : ItK) (args2 conds2 : List Ex) (own2 : List Nat) (ρ0 : Sl) : D → Mem → R (Option (List D)) := fun d M3 => match bindP p d ρ0 with
  | some ρ' => (evAll c conds ρ' M3).bind fun b M4 => if b then (evEs c args2 ρ' M4).bind fun ds2 M5 => (R.of (itD k2 ds2) M5).bind fun items2 M6 =>
      (compL (cmpB c elt p2 conds2 (killS ρ' own2)) items2 M6).bind fun r M10 => .ok (some r) M10 else .ok none M4
  | none => .st
def kO4 (r : R (List D)) : R (Option (List D)) := r.bind fun r M10 => .ok (some r) M10
theorem kO4_ok {ds : List D} {M : Mem} : kO4 (.ok ds M) = .ok (some ds) M := rfl
def kO3 (c : Cfg) (elt : Ex) (p2 : Pt) (conds2 : List Ex) (ρ0 : Sl) (x : Option (List D)) (M : Mem) : R (Option (List D)) := match x with
  | some items2 => kO4 (compL (cmpB c elt p2 conds2 ρ0) items2 M)
  | none => .st
theorem kO3_some {c : Cfg} {elt : Ex} {p2 : Pt} {conds2 : List Ex} {ρ0 : Sl} {items : List D} {M : Mem} : kO3 c elt p2 conds2 ρ0 (some items) M = kO4 (compL (cmpB c elt p2 conds2 ρ0) items M) := rfl
def kO2 (c : Cfg) (elt : Ex) (p2 : Pt) (k2 : ItK) (conds2 : List Ex) (ρ0 : Sl) (r : R (List D)) : R (Option (List D)) := r.bind fun ds2 M5 => kO3 c elt p2 conds2 ρ0 (itD k2 ds2) M5
theorem kO2_ok {c : Cfg} {elt : Ex} {p2 : Pt} {k2 : ItK} {conds2 : List Ex} {ρ0 : Sl} {ds : List D} {M : Mem} : kO2 c elt p2 k2 conds2 ρ0 (.ok ds M) = kO3 c elt p2 conds2 ρ0 (itD k2 ds) M := rfl
def kO1 (c : Cfg) (elt : Ex) (p2 : Pt) (k2 : ItK) (args2 conds2 : List Ex) (own2 : List Nat) (ρ : Sl) (r : R Bool) : R (Option (List D)) := r.bind fun b M4 => if b then kO2 c elt p2 k2 conds2 (killS ρ own2) (evEs c args2 ρ M4) else .ok none M4
theorem kO1_t {c : Cfg} {elt : Ex} {p2 : Pt} {k2 : ItK} {args2 conds2 : List Ex} {own2 : List Nat} {ρ : Sl} {M : Mem} : kO1 c elt p2 k2 args2 conds2 own2 ρ (.ok true M) = kO2 c elt p2 k2 conds2 (killS ρ own2) (evEs c args2 ρ M) := rfl
theorem kO1_f {c : Cfg} {elt : Ex} {p2 : Pt} {k2 : ItK} {args2 conds2 : List Ex} {own2 : List Nat} {ρ : Sl} {M : Mem} : kO1 c elt p2 k2 args2 conds2 own2 ρ (.ok false M) = .ok none M := rfl
def kO0 (c : Cfg) (elt : Ex) (conds : List Ex) (p2 : Pt) (k2 : ItK) (args2 conds2 : List Ex) (own2 : List Nat) (M : Mem) (o : Option Sl) : R (Option (List D)) := match o with
  | some ρ' => kO1 c elt p2 k2 args2 conds2 own2 ρ' (evAll c conds ρ' M)
  | none => .st
theorem kO0_some {c : Cfg} {elt : Ex} {conds : List Ex} {p2 : Pt} {k2 : ItK} {args2 conds2 : List Ex} {own2 : List Nat} {M : Mem} {ρ : Sl} : kO0 c elt conds p2 k2 args2 conds2 own2 M (some ρ) = kO1 c elt p2 k2 args2 conds2 own2 ρ (evAll c conds ρ M) := rfl
theorem cmpO_eq {c : Cfg} {elt : Ex} {p : Pt} {conds : List Ex} {p2 : Pt} {k2 : ItK} {args2 conds2 : List Ex} {own2 : List Nat} {ρ0 : Sl} {d : D} {M : Mem} : cmpO c elt p conds p2 k2 args2 conds2 own2 ρ0 d M = kO0 c elt conds p2 k2 args2 conds2 own2 M (bindP p d ρ0) := by
  unfold cmpO kO0
  cases bindP p d ρ0 with
  | none => rfl
  | some ρ' =>
    dsimp only
    unfold kO1
    congr 1
    funext b M4
    cases b with
    | false => rfl
    | true =>
      simp only [if_true]
      unfold kO2
      congr 1
      funext ds2 M5
      cases itD k2 ds2 <;> rfl
def kLo (r : R (List (List D))) : R D := r.nox.bind fun r M3 => if r.flatten.length ≤ sizeLine then .ok (.lst r.flatten) M3 else .st
theorem kLo_ok {ds : List (List D)} {M : Mem} (h : ds.flatten.length ≤ 16777216) : kLo (.ok ds M) = .ok (.lst ds.flatten) M := by
  show (if _ then _ else _) = _
  rw [if_pos (by rw [sizeLine_eq]; exact h)]
def kCow2 (c : Cfg) (elt : Ex) (p : Pt) (conds : List Ex) (p2 : Pt) (k2 : ItK) (args2 conds2 : List Ex) (own2 : List Nat) (ρ0 : Sl) (x : Option (List D)) (M : Mem) : R D := match x with
  | some items => kLo (compL (cmpO c elt p conds p2 k2 args2 conds2 own2 ρ0) items M)
  | none => .st
theorem kCow2_some {c : Cfg} {elt : Ex} {p : Pt} {conds : List Ex} {p2 : Pt} {k2 : ItK} {args2 conds2 : List Ex} {own2 : List Nat} {ρ0 : Sl} {items : List D} {M : Mem} : kCow2 c elt p conds p2 k2 args2 conds2 own2 ρ0 (some items) M = kLo (compL (cmpO c elt p conds p2 k2 args2 conds2 own2 ρ0) items M) := rfl
def kCow (c : Cfg) (elt : Ex) (p : Pt) (k : ItK) (conds : List Ex) (p2 : Pt) (k2 : ItK) (args2 conds2 : List Ex) (own2 : List Nat) (ρ0 : Sl) (r : R (List D)) : R D := r.bind fun ds M1 => kCow2 c elt p conds p2 k2 args2 conds2 own2 ρ0 (itD k ds) M1
theorem kCow_ok {c : Cfg} {elt : Ex} {p : Pt} {k : ItK} {conds : List Ex} {p2 : Pt} {k2 : ItK} {args2 conds2 : List Ex} {own2 : List Nat} {ρ0 : Sl} {ds : List D} {M : Mem} : kCow c elt p k conds p2 k2 args2 conds2 own2 ρ0 (.ok ds M) = kCow2 c elt p conds p2 k2 args2 conds2 own2 ρ0 (itD k ds) M := rfl
theorem E_comp2 {c : Cfg} {elt : Ex} {p : Pt} {k : ItK} {args conds : List Ex} {own : List Nat} {p2 : Pt} {k2 : ItK} {args2 conds2 : List Ex} {own2 : List Nat} {ρ : Sl} {M : Mem} : evE c (.comp2 elt p k args conds own p2 k2 args2 conds2 own2) ρ M = kCow c elt p k conds p2 k2 args2 conds2 own2 (killS ρ own) (evEs c args ρ M) := by
  rw [evE.eq_28]
  unfold kCow
  congr 1
  funext ds M1
  cases itD k ds <;> rfl
theorem compL_opt {α β : Type} {f : D → Mem → R (Option β)} {M : Mem} (enc : α → D) (g : α → β) (l : List α) (h : ∀ x ∈ l, f (enc x) M = .ok (some (g x)) M) : compL f (l.map enc) M = .ok (l.map g) M := by
  induction l with
  | nil => rfl
  | cons a l ih => simp only [List.map_cons, compL, h a List.mem_cons_self, R.bind_ok, ih fun x hx => h x (List.mem_cons_of_mem _ hx)]
/-! things of one's own -/
def kAe (r : R D) : R (Md × D) := r.bind fun d M1 => .ok (Md.z, d) M1
theorem kAe_ok {d : D} {M : Mem} : kAe (.ok d M) = .ok (Md.z, d) M := rfl
theorem kAe_ex {k : Nat} {M : Mem} : kAe (.ex k M) = .ex k M := rfl
theorem A_e {c : Cfg} {x : Ex} {ρ : Sl} {M : Mem} : evA c (.e x) ρ M = kAe (evE c x ρ M) := by rw [evA.eq_1]; rfl
def kAl (r : R (List (Md × D))) : R (Md × D) := r.bind fun rs M1 => lstA rs M1
theorem kAl_ok {rs : List (Md × D)} {M : Mem} : kAl (.ok rs M) = lstA rs M := rfl
theorem kAl_ex {k : Nat} {M : Mem} : kAl (.ex k M) = .ex k M := rfl
theorem A_lst {c : Cfg} {as : List Ax} {ρ : Sl} {M : Mem} : evA c (.lst as) ρ M = kAl (evAs c as ρ M) := by rw [evA.eq_2]; rfl
theorem A_dict0 {c : Cfg} {t : Bool} {ρ : Sl} {M : Mem} : evA c (.dict0 t) ρ M = .ok (.all, .dic t []) M := by rw [evA.eq_3]
def kAf (r : R D) : R (Md × D) := r.bind fun d M1 => R.of (frA d) M1
theorem kAf_ok {d : D} {M : Mem} : kAf (.ok d M) = R.of (frA d) M := rfl
theorem A_fr {c : Cfg} {x : Ex} {ρ : Sl} {M : Mem} : evA c (.fr x) ρ M = kAf (evE c x ρ M) := by rw [evA.eq_4]; rfl
theorem A_call {c : Cfg} {f : Nat} {es : List Ex} {ρ : Sl} {M : Mem} : evA c (.call f es) ρ M = kCall c f (evEs c es ρ M) := by rw [evA.eq_5]; rfl
def kAx2 (r : Md × D) (x : R D) : R (Md × D) := x.bind fun x M2 => R.of (ixA r x) M2
theorem kAx2_ok {r : Md × D} {x : D} {M : Mem} : kAx2 r (.ok x M) = R.of (ixA r x) M := rfl
def kAx (c : Cfg) (k : Ex) (ρ : Sl) (r : R (Md × D)) : R (Md × D) := r.bind fun r M1 => kAx2 r (evE c k ρ M1)
theorem kAx_ok {c : Cfg} {k : Ex} {ρ : Sl} {r : Md × D} {M : Mem} : kAx c k ρ (.ok r M) = kAx2 r (evE c k ρ M) := rfl
theorem A_ix {c : Cfg} {a : Ax} {k : Ex} {ρ : Sl} {M : Mem} : evA c (.ix a k) ρ M = kAx c k ρ (evA c a ρ M) := by rw [evA.eq_6]; rfl
def cmpA (c : Cfg) (elt : Ax) (p : Pt) (conds : List Ex) (ρ0 : Sl) : D → Mem → R (Option (Md × D)) := fun d M3 => match bindP p d ρ0 with
  | some ρ' => (evAll c conds ρ' M3).bind fun b M4 => if b then (evA c elt ρ' M4).bind fun y M5 => .ok (some y) M5 else .ok none M4
  | none => .st
def kDp2 (r : R (Md × D)) : R (Option (Md × D)) := r.bind fun y M5 => .ok (some y) M5
theorem kDp2_ok {y : Md × D} {M : Mem} : kDp2 (.ok y M) = .ok (some y) M := rfl
def kDp1 (c : Cfg) (elt : Ax) (ρ : Sl) (r : R Bool) : R (Option (Md × D)) := r.bind fun b M4 => if b then kDp2 (evA c elt ρ M4) else .ok none M4
theorem kDp1_t {c : Cfg} {elt : Ax} {ρ : Sl} {M : Mem} : kDp1 c elt ρ (.ok true M) = kDp2 (evA c elt ρ M) := rfl
theorem kDp1_f {c : Cfg} {elt : Ax} {ρ : Sl} {M : Mem} : kDp1 c elt ρ (.ok false M) = .ok none M := rfl
def kDp0 (c : Cfg) (elt : Ax) (conds : List Ex) (M : Mem) (o : Option Sl) : R (Option (Md × D)) := match o with
  | some ρ' => kDp1 c elt ρ' (evAll c conds ρ' M)
  | none => .st
theorem kDp0_some {c : Cfg} {elt : Ax} {conds : List Ex} {M : Mem} {ρ : Sl} : kDp0 c elt conds M (some ρ) = kDp1 c elt ρ (evAll c conds ρ M) := rfl
theorem cmpA_eq {c : Cfg} {elt : Ax} {p : Pt} {conds : List Ex} {ρ0 : Sl} {d : D} {M : Mem} : cmpA c elt p conds ρ0 d M = kDp0 c elt conds M (bindP p d ρ0) := by
  unfold cmpA kDp0
  cases bindP p d ρ0 <;> rfl
def kLd (r : R (List (Md × D))) : R (Md × D) := r.nox.bind fun r M3 => lstA r M3
theorem kLd_ok {ds : List (Md × D)} {M : Mem} : kLd (.ok ds M) = lstA ds M := rfl
def kDm2 (c : Cfg) (elt : Ax) (p : Pt) (conds : List Ex) (ρ0 : Sl) (x : Option (List D)) (M : Mem) : R (Md × D) := match x with
  | some items => kLd (compL (cmpA c elt p conds ρ0) items M)
  | none => .st
theorem kDm2_some {c : Cfg} {elt : Ax} {p : Pt} {conds : List Ex} {ρ0 : Sl} {items : List D} {M : Mem} : kDm2 c elt p conds ρ0 (some items) M = kLd (compL (cmpA c elt p conds ρ0) items M) := rfl
def kDm (c : Cfg) (elt : Ax) (p : Pt) (k : ItK) (conds : List Ex) (ρ0 : Sl) (r : R (List D)) : R (Md × D) := r.bind fun ds M1 => kDm2 c elt p conds ρ0 (itD k ds) M1
theorem kDm_ok {c : Cfg} {elt : Ax} {p : Pt} {k : ItK} {conds : List Ex} {ρ0 : Sl} {ds : List D} {M : Mem} : kDm c elt p k conds ρ0 (.ok ds M) = kDm2 c elt p conds ρ0 (itD k ds) M := rfl
theorem A_comp {c : Cfg} {elt : Ax} {p : Pt} {k : ItK} {args conds : List Ex} {own : List Nat} {ρ : Sl} {M : Mem} : evA c (.comp elt p k args conds own) ρ M = kDm c elt p k conds (killS ρ own) (evEs c args ρ M) := by
  rw [evA.eq_7]
  unfold kDm
  congr 1
  funext ds M1
  cases itD k ds <;> rfl
def kDn (r : R (Md × D)) : R (Md × D) := r.bind fun r M1 => R.of (dnA r) M1
theorem kDn_ok {r : Md × D} {M : Mem} : kDn (.ok r M) = R.of (dnA r) M := rfl
theorem kDn_ex {k : Nat} {M : Mem} : kDn (.ex k M) = .ex k M := rfl
theorem A_dn {c : Cfg} {a : Ax} {ρ : Sl} {M : Mem} : evA c (.dn a) ρ M = kDn (evA c a ρ M) := by rw [evA.eq_9]; rfl
theorem A_bor {c : Cfg} {a : Ax} {ρ : Sl} {M : Mem} : evA c (.bor a) ρ M = borR M okB (evA c a (viewS ρ) M) := by rw [evA.eq_8]
def kAs2 (d : Md × D) (r : R (List (Md × D))) : R (List (Md × D)) := r.bind fun ds M2 => .ok (d :: ds) M2
theorem kAs2_ok {d : Md × D} {ds : List (Md × D)} {M : Mem} : kAs2 d (.ok ds M) = .ok (d :: ds) M := rfl
def kAs (c : Cfg) (es : List Ax) (ρ : Sl) (r : R (Md × D)) : R (List (Md × D)) := r.bind fun d M1 => kAs2 d (evAs c es ρ M1)
theorem kAs_ok {c : Cfg} {es : List Ax} {ρ : Sl} {d : Md × D} {M : Mem} : kAs c es ρ (.ok d M) = kAs2 d (evAs c es ρ M) := rfl
theorem A_as0 {c : Cfg} {ρ : Sl} {M : Mem} : evAs c [] ρ M = .ok [] M := by rw [evAs.eq_1]
theorem A_as {c : Cfg} {e : Ax} {es : List Ax} {ρ : Sl} {M : Mem} : evAs c (e :: es) ρ M = kAs c es ρ (evA c e ρ M) := by rw [evAs.eq_2]; rfl
def kOf {α : Type} (o : Option α) (M : Mem) : R α := R.of o M
def kEl (M : Mem) (o : Option (Md × D)) : R (Md × D) := match o with | some r => .ok r M | none => .st
theorem kEl_some {r : Md × D} {M : Mem} : kEl M (some r) = .ok r M := rfl
theorem L_a {c : Cfg} {a : Ax} {ρ : Sl} {M : Mem} : evL c (.a a) ρ M = evA c a ρ M := rfl
theorem L_mv {c : Cfg} {j : Nat} {ρ : Sl} {M : Mem} : evL c (.mv j) ρ M = kEl M (getO ρ j) := by
  unfold evL
  rw [getO_eq]
  dsimp only
  cases ρ[j]? with
  | none => rfl
  | some x => cases x <;> rfl
theorem give_a {a : Ax} {ρ : Sl} : giveS (.a a) ρ = ρ := rfl
theorem give_mv {j : Nat} {ρ : Sl} : giveS (.mv j) ρ = ρ.set j .un := rfl
theorem forB_eq {c : Cfg} {p : Pt} {body : List Sm} {d : D} {ρ : Sl} {M : Mem} : forB c p body d ρ M = kSeq c body (kBd (bindP p d ρ) M) := by
  unfold forB
  cases bindP p d ρ <;> rfl
/-! ### loops -/
@[simp] theorem forL_nil (f : D → Sl → Mem → RS) (ρ : Sl) (M : Mem) : forL f [] ρ M = .nx ρ M := rfl
theorem forL_fold {α β : Type} {body : D → Sl → Mem → RS} {M : Mem} (enc : α → D) (st : β → Sl) (g : β → α → β) : ∀ (items : List α) (b : β), (∀ b x, x ∈ items → body (enc x) (st b) M = .nx (st (g b x)) M) →
    forL body (items.map enc) (st b) M = .nx (st (items.foldl g b)) M
  | [], _, _ => rfl
  | x :: xs, b, h => by
    simp only [List.map_cons, forL, h b x List.mem_cons_self, List.foldl_cons]
    exact forL_fold enc st g xs (g b x) fun b x hx => h b x (List.mem_cons_of_mem _ hx)
/-- a loop that changes nothing -/
theorem forL_same {body : D → Sl → Mem → RS} {M : Mem} {ρ : Sl} : ∀ (items : List D), (∀ x ∈ items, body x ρ M = .nx ρ M) → forL body items ρ M = .nx ρ M
  | [], _ => rfl
  | x :: xs, h => by
    simp only [forL, h x List.mem_cons_self]
    exact forL_same xs fun x hx => h x (List.mem_cons_of_mem _ hx)
/-- a loop by its states -/
theorem forL_run {α : Type} {body : D → Sl → Mem → RS} {M : Mem} (enc : α → D) : ∀ (items : List α) (st : Nat → Sl), (∀ i x, items[i]? = some x → body (enc x) (st i) M = .nx (st (i + 1)) M) → forL body (items.map enc) (st 0) M = .nx (st items.length) M
  | [], _, _ => rfl
  | x :: xs, st, h => by
    simp only [List.map_cons, forL, h 0 x rfl]
    exact forL_run enc xs (fun i => st (i + 1)) fun i y hy => h (i + 1) y (by simpa using hy)
theorem forL_runN {body : D → Sl → Mem → RS} {M : Mem} {n : Nat} {ρ0 ρn : Sl} (st : Nat → Sl) (h0 : st 0 = ρ0) (hn : st n = ρn) (h : ∀ i, i < n → body (.int (i : Nat)) (st i) M = .nx (st (i + 1)) M) : forL body ((List.range n).map fun i => D.int (i : Nat)) ρ0 M = .nx ρn M := by
  have := forL_run (body := body) (M := M) (fun i : Nat => D.int i) (List.range n) st fun i x hx => by
    have hi : i < n := by have := (List.getElem?_eq_some_iff.mp hx).1; simpa using this
    rw [List.getElem?_range hi] at hx
    cases hx
    exact h i hi
  rw [List.length_range] at this
  rw [← h0, ← hn]
  exact this
/-- a loop that appends -/
theorem forL_push {α : Type} {body : D → Sl → Mem → RS} {M : Mem} (enc : α → D) (st : List D → Sl) (g : α → D) : ∀ (items : List α) (acc : List D), (∀ acc x, x ∈ items → acc.length < sizeLine → body (enc x) (st acc) M = .nx (st (acc ++ [g x])) M) → acc.length + items.length ≤ sizeLine →
    forL body (items.map enc) (st acc) M = .nx (st (acc ++ items.map g)) M
  | [], acc, _, _ => by simp
  | x :: xs, acc, h, hl => by
    simp only [List.length_cons] at hl
    simp only [List.map_cons, forL, h acc x List.mem_cons_self (by omega)]
    rw [forL_push enc st g xs (acc ++ [g x]) (fun acc x hx => h acc x (List.mem_cons_of_mem _ hx)) (by simp; omega)]
    simp
theorem compL_map {α β : Type} {f : D → Mem → R (Option β)} {M : Mem} (enc : α → D) (g : α → β) : ∀ (items : List α), (∀ x ∈ items, f (enc x) M = .ok (some (g x)) M) → compL f (items.map enc) M = .ok (items.map g) M
  | [], _ => rfl
  | x :: xs, h => by
    simp only [List.map_cons, compL, h x List.mem_cons_self, R.bind_ok, compL_map enc g xs fun x hx => h x (List.mem_cons_of_mem _ hx)]
theorem compL_filter {α β : Type} {f : D → Mem → R (Option β)} {M : Mem} (enc : α → D) (g : α → Option β) : ∀ (items : List α), (∀ x ∈ items, f (enc x) M = .ok (g x) M) → compL f (items.map enc) M = .ok (items.filterMap g) M
  | [], _ => rfl
  | x :: xs, h => by
    simp only [List.map_cons, compL, h x List.mem_cons_self, R.bind_ok, compL_filter enc g xs fun x hx => h x (List.mem_cons_of_mem _ hx), List.filterMap_cons]
    cases g x <;> rfl
theorem rngD_eq (n : Nat) : rngD 0 (n : Int) = (List.range n).map fun i => D.int (i : Nat) := by
  unfold rngD
  simp
theorem itD_rng1 {n : Int} (h0 : 0 ≤ n) (h : n ≤ sizeLine) : itD .rng1 [.int n] = some ((List.range n.toNat).map fun i => D.int (i : Nat)) := by
  simp only [itD]
  rw [if_pos ⟨by omega, h⟩]
  simp [rngD]
theorem itD_rng1N {n : Nat} (h : n ≤ sizeLine) : itD .rng1 [.int (n : Int)] = some ((List.range n).map fun i => D.int (i : Nat)) := by
  rw [itD_rng1 (by omega) (by omega)]; simp
/-- plain data, not deeper than n -/
def pl : Nat → D → Prop
  | 0, _ => False
  | _ + 1, .non => True
  | _ + 1, .bl _ => True
  | _ + 1, .int _ => True
  | _ + 1, .str _ => True
  | n + 1, .tup ds => ds.length ≤ sizeLine ∧ ∀ x ∈ ds, pl n x
  | n + 1, .lst ds => ds.length ≤ sizeLine ∧ ∀ x ∈ ds, pl n x
  | _ + 1, _ => False
theorem atI_nat {α : Type} {xs : List α} {k : Nat} {x : α} (h : xs[k]? = some x) : L2.atI xs (k : Int) = some x := by
  unfold L2.atI L2.ixN
  have hk := (List.getElem?_eq_some_iff.mp h).1
  rw [if_pos (by omega), if_pos (by omega)]
  simpa using h
@[simp] theorem cfg_call (P : Prog) (n : Nat) : (cfgN P n).call = callN P n := rfl
@[simp] theorem cfg_consts (P : Prog) (n : Nat) : (cfgN P n).consts = P.consts := rfl
theorem compL_rangeN {β : Type} {f : D → Mem → R (Option β)} {M : Mem} {n : Nat} (g : Nat → β) (h : ∀ i, i < n → f (.int (i : Nat)) M = .ok (some (g i)) M) : compL f ((List.range n).map fun i => D.int (i : Nat)) M = .ok ((List.range n).map g) M :=
  compL_map (fun i : Nat => D.int i) g (List.range n) fun i hi => h i (List.mem_range.mp hi)
theorem lstA_all {rs : List (Md × D)} {M : Mem} (h : ∀ r ∈ rs, r.1 = .all ∨ r.2.isLD = false) : lstA rs M = .ok (.all, .lst (rs.map (·.2))) M := by
  have : joinM rs = some .all := by
    unfold joinM
    have hf : ∀ r ∈ rs.filter (fun r => r.2.isLD), r.1 = .all := fun r hr => by
      obtain ⟨h1, h2⟩ := List.mem_filter.mp hr
      rcases h r h1 with z | z
      · exact z
      · rw [z] at h2; cases h2
    split
    · rfl
    · rename_i r t e
      rw [e] at hf
      rw [if_pos, hf r List.mem_cons_self]
      simp only [List.all_eq_true, decide_eq_true_eq]
      intro q hq
      rw [hf r List.mem_cons_self, hf q (List.mem_cons_of_mem _ hq)]
  unfold lstA
  rw [this]; rfl
theorem lstA_map {α : Type} {M : Mem} (g : α → D) (l : List α) : lstA (l.map fun x => (Md.all, g x)) M = .ok (.all, .lst (l.map g)) M := by
  rw [lstA_all fun r hr => by
    obtain ⟨x, _, rfl⟩ := List.mem_map.mp hr
    exact .inl rfl, List.map_map]
  rfl
theorem lstA_mapz {α : Type} {M : Mem} {g : α → D} {l : List α} (h : ∀ x ∈ l, (g x).isLD = false) : lstA (l.map fun x => (Md.z, g x)) M = .ok (.all, .lst (l.map g)) M := by
  rw [lstA_all fun r hr => by
    obtain ⟨x, hx, rfl⟩ := List.mem_map.mp hr
    exact .inr (h x hx), List.map_map]
  rfl
theorem borR_nil {α : Type} {ok : α → Bool} {d : α} {M0 M : Mem} (hM : memOk M = true) (h : ok d = true) : borR M0 ok (.ok d M) = .ok d M := by
  unfold borR
  simp [h, hM]
theorem borR_bl {b : Bool} {M0 M : Mem} (hM : memOk M = true) : borR M0 D.noL (.ok (.bl b) M) = .ok (.bl b) M := borR_nil hM rfl
theorem borR_int {b : Int} {M0 M : Mem} (hM : memOk M = true) : borR M0 D.noL (.ok (.int b) M) = .ok (.int b) M := borR_nil hM rfl
theorem memOk_nil : memOk [] = true := rfl
theorem pl_mono : ∀ {n : Nat} {d : D}, pl n d → pl (n + 1) d
  | 0, _, h => h.elim
  | n + 1, d, h => by
    cases d with
    | lst ds => exact ⟨h.1, fun x hx => pl_mono (h.2 x hx)⟩
    | tup ds => exact ⟨h.1, fun x hx => pl_mono (h.2 x hx)⟩
    | non => trivial
    | bl _ => trivial
    | int _ => trivial
    | str _ => trivial
    | _ => exact h.elim
theorem pl_le {n m : Nat} {d : D} (h : pl n d) (e : n ≤ m) : pl m d := by
  induction e with
  | refl => exact h
  | step _ ih => exact pl_mono ih
theorem pl_int {n : Nat} {i : Int} (h : 1 ≤ n) : pl n (.int i) := pl_le (n := 1) trivial h
theorem pl_lst {α : Type} {n : Nat} {f : α → D} {l : List α} (h1 : l.length ≤ sizeLine) (h : ∀ x ∈ l, pl n (f x)) : pl (n + 1) (.lst (l.map f)) := ⟨by simpa using h1, fun x hx => by
  obtain ⟨y, hy, rfl⟩ := List.mem_map.mp hx
  exact h y hy⟩
theorem small_line {n : Nat} (h : n ≤ 1000000) : n ≤ sizeLine := by rw [sizeLine_eq]; omega
theorem getP_nat {ds : List D} {i : Nat} {d : D} {ks : List D} (h : ds[i]? = some d) : getP (.lst ds) (.int (i : Nat) :: ks) = getP d ks := by
  have hi := (List.getElem?_eq_some_iff.mp h).1
  have e : L2.ixN ds.length (i : Nat) = some i := by
    unfold L2.ixN; rw [if_pos (by omega), if_pos (by omega)]; simp
  simp only [getP, e, h]
theorem setP_nat {ds : List D} {i : Nat} {d x : D} {ks : List D} (h : ds[i]? = some d) : setP (.lst ds) (.int (i : Nat) :: ks) x = .lst (ds.set i (setP d ks x)) := by
  have hi := (List.getElem?_eq_some_iff.mp h).1
  have e : L2.ixN ds.length (i : Nat) = some i := by
    unfold L2.ixN; rw [if_pos (by omega), if_pos (by omega)]; simp
  simp only [setP, e, h]
theorem isLD_lst (ds : List D) : (D.lst ds).isLD = true := rfl
theorem isLD_dic (t : Bool) (ds : List (D × D)) : (D.dic t ds).isLD = true := rfl
theorem isLD_tup (ds : List D) : (D.tup ds).isLD = false := rfl
theorem isLD_int (i : Int) : (D.int i).isLD = false := rfl
theorem isLD_bl (i : Bool) : (D.bl i).isLD = false := rfl
theorem isLD_str (i : Str) : (D.str i).isLD = false := rfl
theorem isLD_non : (D.non).isLD = false := rfl
theorem slM_ow {d : D} (h : d.isLD = true) : slM (.all, d) = .ow .all d := by unfold slM; simp [h]
theorem slM_z {d : D} : slM (.z, d) = .fz d := by unfold slM; simp
theorem slM_fz {m : Md} {d : D} (h : d.isLD = false) : slM (m, d) = .fz d := by unfold slM; simp [h]
theorem viewV_ow (m : Md) (d : D) : viewV (.ow m d) = .fz d := rfl
theorem viewV_fz (d : D) : viewV (.fz d) = .fz d := rfl
theorem viewV_un : viewV .un = .un := rfl
theorem lstA_nil {M : Mem} : lstA [] M = .ok (.all, .lst []) M := rfl
end VL
/-! VD: rules with premises; comprehensions under a binder -/
namespace VL
open PySem
abbrev iL (ns : List Int) : D := .lst (ns.map .int)
/-! ### operations -/
theorem b_add (i j : Int) : binD .add (.int i) (.int j) = some (.int (i + j)) := rfl
theorem b_sub (i j : Int) : binD .sub (.int i) (.int j) = some (.int (i - j)) := rfl
theorem b_mul {i j : Int} (h : (-18446744073709551616 < i ∧ i < 18446744073709551616) ∨ (-18446744073709551616 < j ∧ j < 18446744073709551616)) : binD .mul (.int i) (.int j) = some (.int (i * j)) := by
  have : CMulB i j = true := by
    unfold CMulB
    exact decide_eq_true (h.imp (fun ⟨a, b⟩ => ⟨by omega, by omega⟩) (fun ⟨a, b⟩ => ⟨by omega, by omega⟩))
  simp only [binD, this, if_true]
theorem b_fdiv {i j : Int} (h : 0 < j ∧ j < 1073741824) : binD .fdiv (.int i) (.int j) = some (.int (i / j)) := by simp only [binD]; rw [if_pos h]
theorem b_mod {i j : Int} (h : 0 < j) : binD .mod (.int i) (.int j) = some (.int (i % j)) := by simp only [binD]; rw [if_pos h]
theorem b_pow18 : binD .pow (.int 10) (.int 18) = some (.int 1000000000000000000) := by
  simp only [binD]
  rw [if_pos (by decide)]
  rfl
theorem b_pow3 : binD .pow (.int 10) (.int 3) = some (.int 1000) := by
  simp only [binD]
  rw [if_pos (by decide)]
  rfl
theorem b_pow4 : binD .pow (.int 10) (.int 4) = some (.int 10000) := by
  simp only [binD]
  rw [if_pos (by decide)]
  rfl
theorem b_pow5 : binD .pow (.int 10) (.int 5) = some (.int 100000) := by
  simp only [binD]
  rw [if_pos (by decide)]
  rfl
theorem b_pow6 : binD .pow (.int 10) (.int 6) = some (.int 1000000) := by
  simp only [binD]
  rw [if_pos (by decide)]
  rfl
theorem b_pow9 : binD .pow (.int 10) (.int 9) = some (.int 1000000000) := by
  simp only [binD]
  rw [if_pos (by decide)]
  rfl
theorem b_pow10 : binD .pow (.int 10) (.int 10) = some (.int 10000000000) := by
  simp only [binD]
  rw [if_pos (by decide)]
  rfl
theorem b_pow12 : binD .pow (.int 10) (.int 12) = some (.int 1000000000000) := by
  simp only [binD]
  rw [if_pos (by decide)]
  rfl
theorem b_pow15 : binD .pow (.int 10) (.int 15) = some (.int 1000000000000000) := by
  simp only [binD]
  rw [if_pos (by decide)]
  rfl
theorem b_pow20 : binD .pow (.int 10) (.int 20) = some (.int 100000000000000000000) := by
  simp only [binD]
  rw [if_pos (by decide)]
  rfl
theorem b_pow30 : binD .pow (.int 10) (.int 30) = some (.int 1000000000000000000000000000000) := by
  simp only [binD]
  rw [if_pos (by decide)]
  rfl
theorem b_adds {x y : Str} (h : x.length + y.length ≤ sizeLine) : binD .add (.str x) (.str y) = some (.str (x ++ y)) := by simp only [binD]; rw [if_pos h]
theorem b_addl {x y : List D} (h : x.length + y.length ≤ sizeLine) : binD .add (.lst x) (.lst y) = some (.lst (x ++ y)) := by simp only [binD]; rw [if_pos h]
theorem b_addt {x y : List D} (h : x.length + y.length ≤ sizeLine) : binD .add (.tup x) (.tup y) = some (.tup (x ++ y)) := by simp only [binD]; rw [if_pos h]
theorem b_band (i j : Int) : binD .band (.int i) (.int j) = some (.int (Builtin.bitAnd i j)) := rfl
theorem a_add (i j : Int) : augD .add (.int i) (.int j) = some (.int (i + j)) := rfl
theorem a_sub (i j : Int) : augD .sub (.int i) (.int j) = some (.int (i - j)) := rfl
theorem a_adds {x y : Str} (h : x.length + y.length ≤ sizeLine) : augD .add (.str x) (.str y) = some (.str (x ++ y)) := by simp only [augD]; rw [if_pos h]
theorem c_lt (i j : Int) : cmpD .lt (.int i) (.int j) = some (.bl (decide (i < j))) := rfl
theorem c_le (i j : Int) : cmpD .le (.int i) (.int j) = some (.bl (decide (i ≤ j))) := rfl
theorem c_gt (i j : Int) : cmpD .gt (.int i) (.int j) = some (.bl (decide (j < i))) := rfl
theorem c_ge (i j : Int) : cmpD .ge (.int i) (.int j) = some (.bl (decide (j ≤ i))) := rfl
theorem c_eqi (i j : Int) : cmpD .eq (.int i) (.int j) = some (.bl (decide (i = j))) := rfl
theorem c_nei (i j : Int) : cmpD .ne (.int i) (.int j) = some (.bl (!decide (i = j))) := rfl
theorem c_eqs (i j : Str) : cmpD .eq (.str i) (.str j) = some (.bl (decide (i = j))) := rfl
theorem c_nes (i j : Str) : cmpD .ne (.str i) (.str j) = some (.bl (!decide (i = j))) := rfl
theorem c_eqb (i j : Bool) : cmpD .eq (.bl i) (.bl j) = some (.bl (decide (i = j))) := rfl
theorem c_neb (i j : Bool) : cmpD .ne (.bl i) (.bl j) = some (.bl (!decide (i = j))) := rfl
theorem atI_def {ds : List D} (n : Nat) : L2.atI ds (n : Int) = ds[n]? := by
  unfold L2.atI L2.ixN
  by_cases h : n < ds.length
  · rw [if_pos (by omega), if_pos (by omega)]; simp
  · rw [if_pos (by omega), if_neg (by omega)]
    simp [List.getElem?_eq_none (Nat.le_of_not_lt h)]
theorem x_lst {ds : List D} (n : Nat) : ixD (.lst ds) (.int (n : Int)) = ds[n]? := atI_def n
theorem x_tup {ds : List D} (n : Nat) : ixD (.tup ds) (.int (n : Int)) = ds[n]? := atI_def n
theorem x_ixN {n : Nat} {j : Int} (h0 : 0 ≤ j) (h1 : j < n) : L2.ixN n j = some j.toNat := by
  unfold L2.ixN
  rw [if_pos h0, if_pos h1]
theorem x_ixL {n : Nat} (h : 0 < n) : L2.ixN n (-1) = some (n - 1) := by
  unfold L2.ixN
  rw [if_neg (by decide)]
  simp; omega
theorem x_l0 {d : D} {ds : List D} : ixD (.lst (d :: ds)) (.int 0) = some d := x_lst 0
theorem x_t0 {d : D} {ds : List D} : ixD (.tup (d :: ds)) (.int 0) = some d := x_tup 0
theorem x_lL {d : D} {ds : List D} (n : Nat) : ixD (.lst (d :: ds)) (.int (no_index (@OfNat.ofNat Int n instOfNat))) = (d :: ds)[n]? := x_lst n
theorem x_tL {d : D} {ds : List D} (n : Nat) : ixD (.tup (d :: ds)) (.int (no_index (@OfNat.ofNat Int n instOfNat))) = (d :: ds)[n]? := x_tup n
theorem x_map {α : Type} [Inhabited α] {enc : α → D} {l : List α} {i : Int} (h0 : 0 ≤ i) (h1 : i < l.length) : ixD (.lst (l.map enc)) (.int i) = some (enc (l.getD i.toNat default)) := by
  obtain ⟨n, rfl⟩ := Int.eq_ofNat_of_zero_le h0
  rw [x_lst]
  have : n < l.length := by omega
  simp [this]
theorem x_mapt {α : Type} [Inhabited α] {enc : α → D} {l : List α} {i : Int} (h0 : 0 ≤ i) (h1 : i < l.length) : ixD (.tup (l.map enc)) (.int i) = some (enc (l.getD i.toNat default)) := by
  obtain ⟨n, rfl⟩ := Int.eq_ofNat_of_zero_le h0
  rw [x_tup]
  have : n < l.length := by omega
  simp [this]
theorem b_strF {a b : String} (h : decide (Str.ofString a = Str.ofString b) = false) : (Str.ofString a = Str.ofString b) = False := eq_false (of_decide_eq_false h)
/-! ### walks -/
def rngN (n : Nat) : List D := (List.range n).map fun i => D.int (i : Nat)
def rngF (a : Int) (n : Nat) : List D := (List.range n).map fun i => D.int (a + (i : Nat))
theorem i_rng1 {n : Int} (h : 0 ≤ n ∧ n ≤ 16777216) : itD .rng1 [.int n] = some (rngN n.toNat) := itD_rng1 h.1 (by rw [sizeLine_eq]; omega)
theorem i_rng1N {n : Nat} (h : n ≤ 16777216) : itD .rng1 [.int (n : Int)] = some (rngN n) := itD_rng1N (by rw [sizeLine_eq]; omega)
theorem i_rng2 {a b : Int} (h : -16777216 ≤ a ∧ a ≤ 16777216 ∧ -16777216 ≤ b ∧ b - a ≤ 16777216) : itD .rng2 [.int a, .int b] = some (rngF a (b - a).toNat) := by
  simp only [itD]
  rw [if_pos (by rw [sizeLine_eq]; omega)]
  rfl
theorem i_seq (ds : List D) : itD .seq [.lst ds] = some ds := rfl
theorem i_seqt (ds : List D) : itD .seq [.tup ds] = some ds := rfl
theorem i_keys (t : Bool) (kvs : List (D × D)) : itD .keys [.dic t kvs] = some (kvs.map (·.1)) := rfl
theorem i_rev (ds : List D) : itD .rev [.lst ds] = some ds.reverse := rfl
theorem i_revt (ds : List D) : itD .rev [.tup ds] = some ds.reverse := rfl
def rngS (a c : Int) (n : Nat) : List D := (List.range n).map fun i => D.int (a + (i : Nat) * c)
theorem i_rng3 {a b c : Int} (h : -16777216 ≤ a ∧ a ≤ 16777216 ∧ -16777216 ≤ b ∧ b - a ≤ 16777216) (h2 : 0 < c ∧ c < 1073741824) : itD .rng3 [.int a, .int b, .int c] = some (rngS a c ((b - a + c - 1) / c).toNat) := by
  simp only [itD]
  rw [if_pos (by rw [sizeLine_eq]; omega)]
  rfl
theorem i_zip {α β : Type} {e1 : α → D} {e2 : β → D} {l : List α} {m : List β} : itD .zip [.lst (l.map e1), .lst (m.map e2)] = some ((l.zip m).map fun p => D.tup [e1 p.1, e2 p.2]) := by
  simp only [itD]
  rw [List.zip_map, List.map_map]
  rfl
/-! ### built-ins -/
theorem f_len (ds : List D) : bltD .len [.lst ds] = some (.int ds.length) := rfl
theorem f_lent (ds : List D) : bltD .len [.tup ds] = some (.int ds.length) := rfl
theorem f_int (i : Int) : bltD .int [.int i] = some (.int i) := rfl
theorem f_intb (b : Bool) : bltD .int [.bl b] = some (.int (if b then 1 else 0)) := rfl
theorem f_list (ds : List D) : bltD .list [.lst ds] = some (.lst ds) := rfl
theorem f_listt (ds : List D) : bltD .list [.tup ds] = some (.lst ds) := rfl
theorem f_tuple (ds : List D) : bltD .tuple [.lst ds] = some (.tup ds) := rfl
theorem f_tuplet (ds : List D) : bltD .tuple [.tup ds] = some (.tup ds) := rfl
theorem f_max (i j : Int) : bltD .max [.int i, .int j] = some (.int (max i j)) := by
  simp only [bltD, Option.some.injEq, D.int.injEq]; split <;> omega
theorem f_min (i j : Int) : bltD .min [.int i, .int j] = some (.int (min i j)) := by
  simp only [bltD, Option.some.injEq, D.int.injEq]; split <;> omega
theorem f_abs (i : Int) : bltD .abs [.int i] = some (.int (i.natAbs : Nat)) := by
  simp only [bltD, Option.some.injEq, D.int.injEq]; split <;> omega
theorem intsOf_mapf {α : Type} (f : α → Int) : ∀ l : List α, intsOf (l.map fun x => .int (f x)) = some (l.map f)
  | [] => rfl
  | x :: l => by simp only [List.map_cons, intsOf, intsOf_mapf f l, Option.map_some]
theorem blsOf_mapf {α : Type} (f : α → Bool) : ∀ l : List α, blsOf (l.map fun x => .bl (f x)) = some (l.map f)
  | [] => rfl
  | x :: l => by simp only [List.map_cons, blsOf, blsOf_mapf f l, Option.map_some]
theorem f_sum {α : Type} (f : α → Int) (l : List α) : bltD .sum [.lst (l.map fun x => .int (f x))] = some (.int (l.map f).sum) := by
  simp only [bltD, intsOf_mapf, Option.map_some]
theorem f_all {α : Type} (f : α → Bool) (l : List α) : bltD .all [.lst (l.map fun x => .bl (f x))] = some (.bl (l.all f)) := by
  simp only [bltD, blsOf_mapf, Option.map_some, List.all_map, Function.comp_def, id]
theorem f_any {α : Type} (f : α → Bool) (l : List α) : bltD .any [.lst (l.map fun x => .bl (f x))] = some (.bl (l.any f)) := by
  simp only [bltD, blsOf_mapf, Option.map_some, List.any_map, Function.comp_def, id]
def maxI (l : List Int) : Int := (maxL l).getD 0
def minI (l : List Int) : Int := (minL l).getD 0
theorem f_maxl {α : Type} (f : α → Int) {l : List α} (h : 0 < l.length) : bltD .max [.lst (l.map fun x => .int (f x))] = some (.int (maxI (l.map f))) := by
  simp only [bltD, intsOf_mapf, Option.bind_some]
  cases l with
  | nil => simp at h
  | cons a r => rfl
theorem f_minl {α : Type} (f : α → Int) {l : List α} (h : 0 < l.length) : bltD .min [.lst (l.map fun x => .int (f x))] = some (.int (minI (l.map f))) := by
  simp only [bltD, intsOf_mapf, Option.bind_some]
  cases l with
  | nil => simp at h
  | cons a r => rfl
theorem f_maxI {l : List Int} (h : 0 < l.length) : bltD .max [.lst (l.map D.int)] = some (.int (maxI l)) := by
  have := f_maxl (fun x => x) h
  simpa using this
theorem f_minI {l : List Int} (h : 0 < l.length) : bltD .min [.lst (l.map D.int)] = some (.int (minI l)) := by
  have := f_minl (fun x => x) h
  simpa using this
def sortI (l : List Int) : List Int := l.mergeSort fun a b => decide (a ≤ b)
def sortP (l : List (Int × Int)) : List (Int × Int) := l.mergeSort lePB
def enP (p : Int × Int) : D := .tup [.int p.1, .int p.2]
theorem f_sortI {l : List Int} : bltD .sorted [.lst (l.map D.int)] = some (.lst ((sortI l).map D.int)) := by
  have := intsOf_mapf (fun x => x) l
  simp only [List.map_id_fun', id] at this
  simp only [bltD, srtD, this, Option.map_some]; rfl
theorem pairsOf_map' : ∀ l : List (Int × Int), pairsOf (l.map enP) = some l
  | [] => rfl
  | p :: l => by simp only [List.map_cons, enP, pairsOf]; rw [show (l.map enP) = l.map enP from rfl, pairsOf_map' l]; rfl
theorem f_sortP {l : List (Int × Int)} (h : 0 < l.length) : bltD .sorted [.lst (l.map enP)] = some (.lst ((sortP l).map enP)) := by
  have h1 : intsOf (l.map enP) = none := by
    cases l with
    | nil => simp at h
    | cons p l => rfl
  simp only [bltD, srtD, h1, pairsOf_map', Option.map_some]; rfl
/-! ### dicts, their keys ints -/
theorem f_lend (l : List (D × D)) : bltD .len [.dic false l] = some (.int l.length) := rfl
theorem f_lenk (l : List D) : bltD .len [.ktup l] = some (.int l.length) := rfl
theorem f_listd {t : Bool} (l : List (D × D)) : bltD .list [.dic t l] = some (.lst (l.map (·.1))) := by cases t <;> rfl
theorem i_seqk (ds : List D) : itD .seq [.ktup ds] = some ds := rfl
def enK {α : Type} (e : α → D) (p : Int × α) : D × D := (.int p.1, e p.2)
theorem x_okKi {i : Int} : okK false (.int i) = true := rfl
theorem x_okKs {i : Str} : okK false (.str i) = true := rfl
def lookI {α : Type} (k : Int) (l : List (Int × α)) : Option α := (l.find? fun p => decide (p.1 = k)).map (·.2)
theorem lookD_map {α : Type} {e : α → D} {k : Int} : ∀ {l : List (Int × α)}, lookD (.int k) (l.map (enK e)) = (lookI k l).map e
  | [] => rfl
  | p :: l => by
    have ih := lookD_map (e := e) (k := k) (l := l)
    unfold lookD lookI at ih ⊢
    simp only [List.map_cons, List.find?_cons, enK]
    by_cases h : p.1 = k
    · simp [h]
    · simp only [D.int.injEq, h, decide_false]; exact ih
theorem lookI_none {α : Type} {k : Int} : ∀ {l : List (Int × α)}, (∀ p ∈ l, p.1 ≠ k) → lookI k l = none
  | [], _ => rfl
  | p :: l, h => by
    unfold lookI
    rw [List.find?_cons_of_neg (by simpa using h p List.mem_cons_self)]
    exact lookI_none fun q hq => h q (List.mem_cons_of_mem _ hq)
theorem lookI_some {α : Type} {k : Int} {v : α} : ∀ {l : List (Int × α)}, (k, v) ∈ l → (∀ p ∈ l, p.1 = k → p.2 = v) → lookI k l = some v
  | [], h, _ => by cases h
  | p :: l, h, u => by
    unfold lookI
    by_cases e : p.1 = k
    · rw [List.find?_cons_of_pos (by simpa using e)]
      simp [u p List.mem_cons_self e]
    · rw [List.find?_cons_of_neg (by simpa using e)]
      refine lookI_some ?_ fun q hq => u q (List.mem_cons_of_mem _ hq)
      rcases List.mem_cons.mp h with rfl | h
      · exact absurd rfl e
      · exact h
theorem putD_new {k v : D} {l : List (D × D)} (h : ∀ p ∈ l, p.1 ≠ k) : putD k v l = l ++ [(k, v)] := by
  unfold putD
  rw [if_neg]
  simp only [List.any_eq_true, decide_eq_true_eq, not_exists, not_and]
  exact h
theorem putD_mapN {α : Type} {e : α → D} {l : List (Int × α)} {k : Int} {v : D} (h : ∀ p ∈ l, p.1 ≠ k) : putD (.int k) v (l.map (enK e)) = l.map (enK e) ++ [(.int k, v)] := by
  refine putD_new fun p hp => ?_
  obtain ⟨q, hq, rfl⟩ := List.mem_map.mp hp
  simpa [enK] using h q hq
theorem q_tn {α : Type} {f : α → D} {l : List α} (h : ∀ x, (f x).tupNoL = true) : D.tupNoL (.lst (l.map f)) = true := by
  show D.tupNoLs (l.map f) = true
  induction l with
  | nil => rfl
  | cons x l ih => simp only [List.map_cons, D.tupNoLs, h x, ih, Bool.and_self]
theorem q_borA {d : D} {M0 M : Mem} (hM : memOk M = true) (h : d.tupNoL = true) : borR M0 okB (.ok (.all, d) M) = .ok (.all, d) M := borR_nil hM (by unfold okB; simp [h])
theorem p_borAi {l : List Int} {M0 M : Mem} (hM : memOk M = true) : borR M0 okB (.ok (.all, .lst (l.map D.int)) M) = .ok (.all, .lst (l.map D.int)) M := q_borA hM (q_tn fun _ => rfl)
theorem p_borAm {α : Type} {f : α → D} {l : List α} {M0 M : Mem} (hM : memOk M = true) (h : ∀ x, (f x).tupNoL = true) : borR M0 okB (.ok (.all, .lst (l.map f)) M) = .ok (.all, .lst (l.map f)) M := q_borA hM (q_tn h)
/-! ### branches -/
theorem kIf_b {c : Cfg} {a b : List Sm} {ρ : Sl} {t : Bool} {M : Mem} : kIf c a b ρ (.ok t M) = if t = true then evSs c a ρ M else evSs c b ρ M := by cases t <;> rfl
theorem kIte_b {c : Cfg} {a b : Ex} {ρ : Sl} {t : Bool} {M : Mem} : kIte c a b ρ (.ok t M) = if t = true then evE c a ρ M else evE c b ρ M := by cases t <;> rfl
theorem kAnd2_b {c : Cfg} {es : List Ex} {ρ : Sl} {d : D} {t : Bool} {M : Mem} : kAnd2 c es ρ d (some t) M = if t = true then evAnd c es ρ M else .ok d M := by cases t <;> rfl
theorem kOr2_b {c : Cfg} {es : List Ex} {ρ : Sl} {d : D} {t : Bool} {M : Mem} : kOr2 c es ρ d (some t) M = if t = true then .ok d M else evOr c es ρ M := by cases t <;> rfl
theorem kCh3_b {c : Cfg} {o2 : COp} {y : D} {d : Ex} {ρ : Sl} {t : Bool} {M : Mem} : kCh3 c o2 y d ρ (.ok (.bl t) M) = if t = true then kCmp2 o2 y (evE c d ρ M) else .ok (.bl false) M := by cases t <;> rfl
section
variable {α : Type} {p : Prop} [Decidable p] {M : Mem}
/-- both ways end well: one value -/
theorem ok_ite {a b : α} : (if p then R.ok a M else R.ok b M) = R.ok (if p then a else b) M := by split <;> rfl
theorem bl_ite {a b : Bool} : (if p then D.bl a else D.bl b) = D.bl (if p then a else b) := by split <;> rfl
theorem int_ite {a b : Int} : (if p then D.int a else D.int b) = D.int (if p then a else b) := by split <;> rfl
theorem str_ite {a b : Str} : (if p then D.str a else D.str b) = D.str (if p then a else b) := by split <;> rfl
theorem kSeq_if {c : Cfg} {r : List Sm} {x y : RS} : kSeq c r (if p then x else y) = if p then kSeq c r x else kSeq c r y := by split <;> rfl
theorem fin_if {x y : RS} : (if p then x else y).fin = if p then x.fin else y.fin := by split <;> rfl
theorem kC2_if {x y : R (Md × D)} : kC2 (if p then x else y) = if p then kC2 x else kC2 y := by split <;> rfl
theorem ite_bl {a : Bool} : (if p then a else false) = (decide p && a) := by split <;> simp [*]
theorem ite_blT {a : Bool} : (if p then true else a) = (decide p || a) := by split <;> simp [*]
theorem ite_blF {a : Bool} : (if p then false else a) = (!decide p && a) := by split <;> simp [*]
end
/-! ### comprehensions -/
def cmpM {α β : Type} : (l : List α) → ((x : α) → x ∈ l → Mem → R (Option β)) → Mem → R (List β)
  | [], _, M => .ok [] M
  | x :: l, f, M => (f x List.mem_cons_self M).bind fun o M1 => (cmpM l (fun y h => f y (List.mem_cons_of_mem _ h)) M1).bind fun r M2 => .ok (match o with | some y => y :: r | none => r) M2
theorem compL_M {α β : Type} {f : D → Mem → R (Option β)} (enc : α → D) : ∀ (l : List α) (M : Mem), compL f (l.map enc) M = cmpM l (fun x _ M => f (enc x) M) M
  | [], _ => rfl
  | x :: l, M => by
    simp only [List.map_cons, compL, cmpM]
    congr 1
    funext o M1
    rw [compL_M enc l]
    all_goals (cases o <;> rfl)
theorem cmpM_opt {α β : Type} {g : α → Option β} : ∀ (l : List α) {M : Mem}, cmpM l (fun x _ M => .ok (g x) M) M = .ok (l.filterMap g) M
  | [], _ => rfl
  | x :: l, M => by
    simp only [cmpM, R.bind_ok, cmpM_opt l, List.filterMap_cons]
    cases g x <;> rfl
theorem cmpM_some {α β : Type} {g : α → β} {l : List α} {M : Mem} : cmpM l (fun x _ M => .ok (some (g x)) M) M = .ok (l.map g) M := by
  rw [cmpM_opt (g := fun x => some (g x))]; simp
def cmpN {β : Type} (n : Nat) (f : (i : Nat) → i < n → Mem → R (Option β)) (M : Mem) : R (List β) := cmpM (List.range n) (fun i h => f i (List.mem_range.mp h)) M
theorem cmpN_opt {β : Type} {g : Nat → Option β} {n : Nat} {M : Mem} : cmpN n (fun i _ M => .ok (g i) M) M = .ok ((List.range n).filterMap g) M := cmpM_opt _
theorem cmpN_some {β : Type} {g : Nat → β} {n : Nat} {M : Mem} : cmpN n (fun i _ M => .ok (some (g i)) M) M = .ok ((List.range n).map g) M := cmpM_some
section
variable {c : Cfg} {p : Pt} {conds : List Ex} {ρ0 : Sl} {M : Mem}
theorem kDm2_M {α : Type} {elt : Ax} {l : List α} {enc : α → D} : kDm2 c elt p conds ρ0 (some (l.map enc)) M = kLd (cmpM l (fun x _ M => kDp0 c elt conds M (bindP p (enc x) ρ0)) M) := by
  rw [kDm2_some, compL_M]; simp only [cmpA_eq]
theorem kDm2_N {elt : Ax} {n : Nat} : kDm2 c elt p conds ρ0 (some (rngN n)) M = kLd (cmpN n (fun i _ M => kDp0 c elt conds M (bindP p (.int (i : Nat)) ρ0)) M) := by
  unfold rngN; rw [kDm2_M]; rfl
theorem kDm2_F {elt : Ax} {n : Nat} {a : Int} : kDm2 c elt p conds ρ0 (some (rngF a n)) M = kLd (cmpN n (fun i _ M => kDp0 c elt conds M (bindP p (.int (a + (i : Nat))) ρ0)) M) := by
  unfold rngF; rw [kDm2_M]; rfl
theorem kCm2_M {α : Type} {elt : Ex} {l : List α} {enc : α → D} : kCm2 c elt p conds ρ0 (some (l.map enc)) M = kLc (cmpM l (fun x _ M => kCp0 c elt conds M (bindP p (enc x) ρ0)) M) := by
  rw [kCm2_some, compL_M]; simp only [cmpB_eq]
theorem kCm2_N {elt : Ex} {n : Nat} : kCm2 c elt p conds ρ0 (some (rngN n)) M = kLc (cmpN n (fun i _ M => kCp0 c elt conds M (bindP p (.int (i : Nat)) ρ0)) M) := by
  unfold rngN; rw [kCm2_M]; rfl
theorem kCm2_F {elt : Ex} {n : Nat} {a : Int} : kCm2 c elt p conds ρ0 (some (rngF a n)) M = kLc (cmpN n (fun i _ M => kCp0 c elt conds M (bindP p (.int (a + (i : Nat))) ρ0)) M) := by
  unfold rngF; rw [kCm2_M]; rfl
theorem kCow2_M {α : Type} {elt : Ex} {p2 : Pt} {k2 : ItK} {args2 conds2 : List Ex} {own2 : List Nat} {l : List α} {enc : α → D} : kCow2 c elt p conds p2 k2 args2 conds2 own2 ρ0 (some (l.map enc)) M = kLo (cmpM l (fun x _ M => kO0 c elt conds p2 k2 args2 conds2 own2 M (bindP p (enc x) ρ0)) M) := by
  rw [kCow2_some, compL_M]; simp only [cmpO_eq]
theorem kCow2_N {elt : Ex} {p2 : Pt} {k2 : ItK} {args2 conds2 : List Ex} {own2 : List Nat} {n : Nat} : kCow2 c elt p conds p2 k2 args2 conds2 own2 ρ0 (some (rngN n)) M = kLo (cmpN n (fun i _ M => kO0 c elt conds p2 k2 args2 conds2 own2 M (bindP p (.int (i : Nat)) ρ0)) M) := by
  unfold rngN; rw [kCow2_M]; rfl
theorem kCow2_F {elt : Ex} {p2 : Pt} {k2 : ItK} {args2 conds2 : List Ex} {own2 : List Nat} {n : Nat} {a : Int} : kCow2 c elt p conds p2 k2 args2 conds2 own2 ρ0 (some (rngF a n)) M = kLo (cmpN n (fun i _ M => kO0 c elt conds p2 k2 args2 conds2 own2 M (bindP p (.int (a + (i : Nat))) ρ0)) M) := by
  unfold rngF; rw [kCow2_M]; rfl
theorem kO3_M {α : Type} {elt : Ex} {l : List α} {enc : α → D} : kO3 c elt p conds ρ0 (some (l.map enc)) M = kO4 (cmpM l (fun x _ M => kCp0 c elt conds M (bindP p (enc x) ρ0)) M) := by
  rw [kO3_some, compL_M]; simp only [cmpB_eq]
theorem kO3_N {elt : Ex} {n : Nat} : kO3 c elt p conds ρ0 (some (rngN n)) M = kO4 (cmpN n (fun i _ M => kCp0 c elt conds M (bindP p (.int (i : Nat)) ρ0)) M) := by
  unfold rngN; rw [kO3_M]; rfl
theorem kO3_F {elt : Ex} {n : Nat} {a : Int} : kO3 c elt p conds ρ0 (some (rngF a n)) M = kO4 (cmpN n (fun i _ M => kCp0 c elt conds M (bindP p (.int (a + (i : Nat))) ρ0)) M) := by
  unfold rngF; rw [kO3_M]; rfl
theorem kO1_b {elt : Ex} {p2 : Pt} {k2 : ItK} {args2 conds2 : List Ex} {own2 : List Nat} {ρ : Sl} {t : Bool} : kO1 c elt p2 k2 args2 conds2 own2 ρ (.ok t M) = if t = true then kO2 c elt p2 k2 conds2 (killS ρ own2) (evEs c args2 ρ M) else .ok none M := by cases t <;> rfl
theorem kDp1_b {elt : Ax} {ρ : Sl} {t : Bool} : kDp1 c elt ρ (.ok t M) = if t = true then kDp2 (evA c elt ρ M) else .ok none M := by cases t <;> rfl
theorem kCp1_b {elt : Ex} {ρ : Sl} {t : Bool} : kCp1 c elt ρ (.ok t M) = if t = true then kCp2 (evE c elt ρ M) else .ok none M := by cases t <;> rfl
end
theorem filterMap_ite {α β : Type} {p : α → Prop} [DecidablePred p] {g : α → β} (l : List α) : l.filterMap (fun x => if p x then some (g x) else none) = (l.filter fun x => decide (p x)).map g := by
  induction l with
  | nil => rfl
  | cons x l ih =>
    by_cases h : p x
    · simp [List.filterMap_cons, List.filter_cons, h, ih]
    · simp [List.filterMap_cons, List.filter_cons, h, ih]
theorem filterMap_sm {α β : Type} {g : α → β} {l : List α} : l.filterMap (fun x => some (g x)) = l.map g := by simp
theorem fr_nil : frA (.lst []) = some (.all, .lst []) := rfl
theorem fr_flat {ds : List D} (h : (ds.all fun d => !d.isLD) = true) : frA (.lst ds) = some (.all, .lst ds) := by
  simp only [frA]; rw [if_pos h]
theorem fr_map {α : Type} {enc : α → D} {l : List α} (h : ∀ x, (enc x).isLD = false) : frA (.lst (l.map enc)) = some (.all, .lst (l.map enc)) := fr_flat (by simp [h])
theorem lstA_allB {rs : List (Md × D)} {M : Mem} (h : (rs.all fun r => decide (r.1 = .all) || !r.2.isLD) = true) : lstA rs M = .ok (.all, .lst (rs.map (·.2))) M := lstA_all fun r hr => by
  have := List.all_eq_true.mp h r hr
  simpa using this
theorem p_nil {ds : List D} : pathB .all (.lst ds) [] = true := rfl
theorem p_path {d : D} {ks : List D} {ds : List D} (h : getL d ks = some ds) : pathB .all d ks = true := pathB_L h (by rw [dnP_all]; exact fun h => by cases h)
/-- a list of settled lists: one's own at its top, once there is one -/
def mdz : Nat → Md
  | 0 => .all
  | _ + 1 => .s .z
theorem p_putz {ds : List D} {x : D} (h : x.isLD = true) : putM (mdz ds.length) true ds (.z, x) = some (mdz (ds.length + 1)) := by
  unfold putM
  cases ds with
  | nil => simp [mdz, h, Md.dn, Md.up]
  | cons d ds => simp [mdz, Md.dn]
theorem p_putzm {α : Type} {f : α → D} {l : List α} {x : D} (h : x.isLD = true) : putM (mdz l.length) true (l.map f) (.z, x) = some (mdz (l.length + 1)) := by
  have := p_putz (ds := l.map f) h
  rw [List.length_map] at this
  exact this
theorem p_zpath {n : Nat} {ds : List D} : pathB (mdz n) (.lst ds) [] = true := by
  cases n <;> rfl
theorem p_dn0 {m : Md} : dnP m [] = m := rfl
theorem p_dnall {ds : List D} : dnA (.all, .lst ds) = some (.s .z, .lst ds) := rfl
theorem p_dns {m : Md} {ds : List D} : dnA (.s m, .lst ds) = some (.s .z, .lst ds) := rfl
theorem p_dnalld {t : Bool} {kvs : List (D × D)} : dnA (.all, .dic t kvs) = some (.s .z, .dic t kvs) := rfl
theorem p_slMd {m : Md} {t : Bool} {kvs : List (D × D)} : slM (.s m, .dic t kvs) = .ow (.s m) (.dic t kvs) := by unfold slM; simp [D.isLD]
theorem p_slM {m : Md} {ds : List D} : slM (.s m, .lst ds) = .ow (.s m) (.lst ds) := by unfold slM; simp [D.isLD]
theorem p_puts {t : Bool} {ds : List D} {x : D} : putM (.s .z) t ds (.z, x) = some (.s .z) := by unfold putM; simp [Md.dn]
theorem p_spath {ds : List D} : pathB (.s .z) (.lst ds) [] = true := rfl
theorem p_dnz {α : Type} {g : α → D} {l : List α} {M : Mem} : kDn (lstA (l.map fun x => (Md.z, g x)) M) = .ok (.s .z, .lst (l.map g)) M := by
  have key : ∃ m, joinM (l.map fun x => (Md.z, g x)) = some m := by
    unfold joinM
    split
    · exact ⟨_, rfl⟩
    · rename_i r t e
      have hz : ∀ q ∈ (r :: t), q.1 = Md.z := fun q hq => by
        rw [← e] at hq
        obtain ⟨x, _, rfl⟩ := List.mem_map.mp (List.mem_filter.mp hq).1
        rfl
      refine ⟨r.1, if_pos ?_⟩
      rw [List.all_eq_true]
      intro q hq
      rw [hz r List.mem_cons_self, hz q (List.mem_cons_of_mem _ hq)]; rfl
  obtain ⟨m, hm⟩ := key
  unfold lstA
  rw [hm, List.map_map]
  show R.of (dnA (m.up, _)) M = _
  unfold dnA
  dsimp only
  rw [if_neg m.up_ne]; rfl
theorem p_mdz0 : Md.all = mdz 0 := rfl
/-! ### loops -/
theorem muD_app {k : D} {ds : List D} {y : D} (h : ds.length < 16777216) : muD .app k ds y = some (ds ++ [y]) := by
  simp only [muD]; rw [if_pos (by rw [sizeLine_eq]; exact h)]
theorem forL_N {body : D → Sl → Mem → RS} {M : Mem} {n : Nat} {ρ0 ρn : Sl} (st : Nat → Sl) (h0 : st 0 = ρ0) (hn : st n = ρn) (h : ∀ i, i < n → body (.int (i : Nat)) (st i) M = .nx (st (i + 1)) M) : forL body (rngN n) ρ0 M = .nx ρn M := forL_runN st h0 hn h
noncomputable def kFl (f : D → Sl → Mem → RS) (ds : List D) (r : RS) : RS := match r with
  | .nx ρ' M' => forL f ds ρ' M'
  | .ct ρ' M' => forL f ds ρ' M'
  | .bk ρ' M' => .nx ρ' M'
  | r => r
theorem forL_cons {f : D → Sl → Mem → RS} {d : D} {ds : List D} {ρ : Sl} {M : Mem} : forL f (d :: ds) ρ M = kFl f ds (f d ρ M) := by
  simp only [forL, kFl]
  all_goals (cases f d ρ M <;> rfl)
theorem kFl_nx {f : D → Sl → Mem → RS} {ds : List D} {ρ : Sl} {M : Mem} : kFl f ds (.nx ρ M) = forL f ds ρ M := rfl
theorem kFl_ct {f : D → Sl → Mem → RS} {ds : List D} {ρ : Sl} {M : Mem} : kFl f ds (.ct ρ M) = forL f ds ρ M := rfl
theorem kFl_bk {f : D → Sl → Mem → RS} {ds : List D} {ρ : Sl} {M : Mem} : kFl f ds (.bk ρ M) = .nx ρ M := rfl
theorem kFl_rt {f : D → Sl → Mem → RS} {ds : List D} {d : Md × D} {M : Mem} : kFl f ds (.rt d M) = .rt d M := rfl
theorem kFl_ex {f : D → Sl → Mem → RS} {ds : List D} {k : Nat} {ρ : Sl} {M : Mem} : kFl f ds (.ex k ρ M) = .ex k ρ M := rfl
theorem muD_clear {k : D} {ds : List D} {y : D} : muD .clear k ds y = some [] := rfl
theorem muD_rev {k : D} {ds : List D} {y : D} : muD .rev k ds y = some ds.reverse := rfl
theorem muD_set {e : Ex} {j : Int} {ds : List D} {y : D} (h0 : 0 ≤ j) (h1 : j < ds.length) : muD (.setk e) (.int j) ds y = some (ds.set j.toNat y) := by
  simp only [muD, L2.ixN]
  rw [if_pos h0, if_pos (by omega)]; rfl
/-- a loop by a relation of state and turn -/
theorem forL_rel {α : Type} {body : D → Sl → Mem → RS} {M : Mem} (enc : α → D) (I : Nat → Sl → Prop) : ∀ (items : List α) (k : Nat) (ρ : Sl), I k ρ → (∀ i x ρ, items[i]? = some x → I (k + i) ρ → ∃ ρ', body (enc x) ρ M = .nx ρ' M ∧ I (k + i + 1) ρ') →
    ∃ ρ', forL body (items.map enc) ρ M = .nx ρ' M ∧ I (k + items.length) ρ'
  | [], k, ρ, h, _ => ⟨ρ, rfl, h⟩
  | x :: xs, k, ρ, h, hs => by
    obtain ⟨ρ1, e1, i1⟩ := hs 0 x ρ rfl h
    obtain ⟨ρ2, e2, i2⟩ := forL_rel enc I xs (k + 1) ρ1 i1 fun i y ρ hy hi => by
      have := hs (i + 1) y ρ (by simpa using hy) (by rw [show k + (i + 1) = k + 1 + i by omega]; exact hi)
      rw [show k + (i + 1) + 1 = k + 1 + i + 1 by omega] at this
      exact this
    refine ⟨ρ2, ?_, by rw [List.length_cons, show k + (xs.length + 1) = k + 1 + xs.length by omega]; exact i2⟩
    simp only [List.map_cons, forL, e1]
    exact e2
theorem forL_relN {body : D → Sl → Mem → RS} {M : Mem} {n : Nat} (I : Nat → Sl → Prop) {ρ : Sl} (h0 : I 0 ρ) (h : ∀ i ρ, i < n → I i ρ → ∃ ρ', body (.int (i : Nat)) ρ M = .nx ρ' M ∧ I (i + 1) ρ') : ∃ ρ', forL body (rngN n) ρ M = .nx ρ' M ∧ I n ρ' := by
  have := forL_rel (body := body) (M := M) (fun i : Nat => D.int i) I (List.range n) 0 ρ h0 fun i x ρ hx hi => by
    have hi' : i < n := by have := (List.getElem?_eq_some_iff.mp hx).1; simpa using this
    rw [List.getElem?_range hi'] at hx
    cases hx
    rw [Nat.zero_add] at hi ⊢
    exact h i ρ hi' hi
  rw [List.length_range, Nat.zero_add] at this
  exact this
/-- a loop that may leave -/
theorem forL_until {α : Type} {body : D → Sl → Mem → RS} {M : Mem} {ρ : Sl} (enc : α → D) (p : α → Bool) (r : α → Md × D) : ∀ (items : List α), (∀ x ∈ items, body (enc x) ρ M = if p x = true then .rt (r x) M else .nx ρ M) →
    forL body (items.map enc) ρ M = match items.find? p with | some x => .rt (r x) M | none => .nx ρ M
  | [], _ => rfl
  | x :: xs, h => by
    have hx := h x List.mem_cons_self
    have ih := forL_until enc p r xs fun y hy => h y (List.mem_cons_of_mem _ hy)
    simp only [List.map_cons, forL, hx, List.find?_cons]
    cases e : p x
    · simp only [Bool.false_eq_true, if_false]; exact ih
    · simp only [if_true]
end VL
namespace VL
open PySem
/-- a loop that appends: what is appended is read off the turn -/
theorem forL_app {α : Type} {body : D → Sl → Mem → RS} {M : Mem} {enc : α → D} (st : List D → Sl) {g : α → D} {items : List α} {acc : List D} (hl : acc.length + items.length ≤ 16777216) (h : ∀ acc x, x ∈ items → acc.length < 16777216 → body (enc x) (st acc) M = .nx (st (acc ++ [g x])) M) :
    forL body (items.map enc) (st acc) M = .nx (st (acc ++ items.map g)) M :=
  forL_push enc st g items acc (fun acc x hx hl => h acc x hx (by rw [sizeLine_eq] at hl; exact hl)) (by rw [sizeLine_eq]; exact hl)
theorem forL_appN {body : D → Sl → Mem → RS} {M : Mem} (st : List D → Sl) {g : Nat → D} {n : Nat} {acc : List D} (hl : acc.length + n ≤ 16777216) (h : ∀ acc i, i < n → acc.length < 16777216 → body (.int (i : Nat)) (st acc) M = .nx (st (acc ++ [g i])) M) :
    forL body (rngN n) (st acc) M = .nx (st (acc ++ (List.range n).map g)) M :=
  forL_app (enc := fun i : Nat => D.int i) st (by simpa using hl) fun acc i hi => h acc i (List.mem_range.mp hi)
theorem forL_app0 {α : Type} {body : D → Sl → Mem → RS} {M : Mem} {enc : α → D} (st : List D → Sl) {g : α → D} {items : List α} (hl : items.length ≤ 16777216) (h : ∀ acc x, x ∈ items → acc.length < 16777216 → body (enc x) (st acc) M = .nx (st (acc ++ [g x])) M) :
    forL body (items.map enc) (st []) M = .nx (st (items.map g)) M := forL_app (acc := []) st (by simpa using hl) h
theorem forL_app0N {body : D → Sl → Mem → RS} {M : Mem} (st : List D → Sl) {g : Nat → D} {n : Nat} (hl : n ≤ 16777216) (h : ∀ acc i, i < n → acc.length < 16777216 → body (.int (i : Nat)) (st acc) M = .nx (st (acc ++ [g i])) M) :
    forL body (rngN n) (st []) M = .nx (st ((List.range n).map g)) M := forL_appN (acc := []) st (by simpa using hl) h
/-- a loop that may leave, what it tests and tells is read off -/
theorem forL_find {α : Type} {body : D → Sl → Mem → RS} {M : Mem} {ρ : Sl} {enc : α → D} {p : α → Prop} [DecidablePred p] {r : α → Md × D} {items : List α} (h : ∀ x ∈ items, body (enc x) ρ M = if p x then .rt (r x) M else .nx ρ M) :
    forL body (items.map enc) ρ M = match items.find? fun x => decide (p x) with | some x => .rt (r x) M | none => .nx ρ M :=
  forL_until enc (fun x => decide (p x)) r items fun x hx => by rw [h x hx]; simp
end VL
namespace VL
open PySem
/-! ### two ways that go on: one state -/
def mrg (p : Prop) [Decidable p] : Sl → Sl → Sl
  | x :: a, y :: b => (if p then x else y) :: mrg p a b
  | a, b => if p then a else b
section
variable {p : Prop} [Decidable p] {M : Mem}
theorem mrg_eq : ∀ {a b : Sl}, a.length = b.length → mrg p a b = if p then a else b
  | [], [], _ => by simp [mrg]
  | x :: a, y :: b, h => by
    simp only [mrg, mrg_eq (a := a) (b := b) (by simpa using h)]
    split <;> rfl
  | [], y :: b, h => by simp at h
  | x :: a, [], h => by simp at h
theorem kB_nx {a b : Sl} (h : a.length = b.length) : (if p then RS.nx a M else RS.nx b M) = .nx (mrg p a b) M := by
  rw [mrg_eq h]; split <;> rfl
theorem kB_nil : mrg p [] [] = [] := by simp [mrg]
theorem kB_r {r : Sl} : mrg p r r = r := by rw [mrg_eq rfl]; split <;> rfl
theorem kB_cons {x y : SV} {a b : Sl} : mrg p (x :: a) (y :: b) = (if p then x else y) :: mrg p a b := rfl
theorem kB_fz {d e : D} : (if p then SV.fz d else SV.fz e) = .fz (if p then d else e) := by split <;> rfl
theorem kB_ow {m : Md} {d e : D} : (if p then SV.ow m d else SV.ow m e) = .ow m (if p then d else e) := by split <;> rfl
theorem kB_same {α : Type} {x : α} : (if p then x else x) = x := by split <;> rfl
theorem kB_lst {a b : List D} : (if p then D.lst a else D.lst b) = .lst (if p then a else b) := by split <;> rfl
theorem kB_tup2 {a b c d : D} : (if p then D.tup [a, b] else D.tup [c, d]) = .tup [if p then a else c, if p then b else d] := by split <;> rfl
end
/-! ### lists by their places -/
theorem rg_id {α β : Type} (f : α → β) (d : α) (l : List α) : ((List.range l.length).map fun k => f (l.getD k d)) = l.map f := by
  apply List.ext_getElem
  · simp
  · intro i h1 h2; simp at h1 h2 ⊢; rw [List.getElem?_eq_getElem h1]; rfl
theorem rg_rev {α β : Type} (f : α → β) (d : α) (l : List α) {n : Int} (hn : n = l.length) : ((List.range l.length).map fun k => f (l.getD (n - 1 - (k : Nat)).toNat d)) = l.reverse.map f := by
  subst hn
  apply List.ext_getElem
  · simp
  · intro i h1 h2
    simp at h1 h2 ⊢
    rw [List.getElem?_eq_getElem (by omega)]; rfl
theorem mem_getD {α : Type} {l : List α} {i : Nat} {d : α} (h : i < l.length) : l.getD i d ∈ l := by
  rw [List.getD_eq_getElem?_getD, List.getElem?_eq_getElem h]; exact List.getElem_mem h
end VL
namespace VL
open PySem
/-- a loop that appends k things a turn -/
theorem forL_cat {α : Type} {body : D → Sl → Mem → RS} {M : Mem} {enc : α → D} (k : Nat) (st : List D → Sl) {g : α → List D} : ∀ {items : List α} {acc : List D}, (∀ x, (g x).length = k) → acc.length + k * items.length ≤ 16777216 → (∀ acc x, x ∈ items → acc.length + k ≤ 16777216 → body (enc x) (st acc) M = .nx (st (acc ++ g x)) M) →
    forL body (items.map enc) (st acc) M = .nx (st (acc ++ items.flatMap g)) M
  | [], acc, _, _, _ => by simp
  | x :: xs, acc, hk, hl, h => by
    have hl' : acc.length + k * xs.length + k ≤ 16777216 := by rw [List.length_cons, Nat.mul_add] at hl; omega
    simp only [List.map_cons, forL, h acc x List.mem_cons_self (by omega)]
    rw [forL_cat k st (items := xs) (acc := acc ++ g x) hk (by rw [List.length_append, hk]; omega) fun acc x hx => h acc x (List.mem_cons_of_mem _ hx)]
    simp
end VL
namespace VL
open PySem
/-! ### comprehensions over written lists -/
def kCq {α : Type} (y : α) (r : R (List α)) : R (List α) := r.bind fun ys M => .ok (y :: ys) M
theorem kCq_ok {α : Type} {y : α} {ys : List α} {M : Mem} : kCq y (.ok ys M) = .ok (y :: ys) M := rfl
def kCo {α : Type} (f : D → Mem → R (Option α)) (ds : List D) (r : R (Option α)) : R (List α) := match r with
  | .ok (some y) M => kCq y (compL f ds M)
  | .ok none M => compL f ds M
  | .ex c M => .ex c M
  | .st => .st
theorem kCo_some {α : Type} {f : D → Mem → R (Option α)} {ds : List D} {y : α} {M : Mem} : kCo f ds (.ok (some y) M) = kCq y (compL f ds M) := rfl
theorem kCo_none {α : Type} {f : D → Mem → R (Option α)} {ds : List D} {M : Mem} : kCo f ds (.ok none M) = compL f ds M := rfl
theorem kCo_cons {α : Type} {f : D → Mem → R (Option α)} {d : D} {ds : List D} {M : Mem} : compL f (d :: ds) M = kCo f ds (f d M) := by
  unfold kCo
  simp only [compL]
  cases f d M with
  | ok o M1 =>
    cases o with
    | some y => simp only [R.bind_ok, kCq]
    | none =>
      simp only [R.bind_ok]
      cases compL f ds M1 <;> rfl
  | ex c M1 => rfl
  | st => rfl
theorem kCo_nil {α : Type} {f : D → Mem → R (Option α)} {M : Mem} : compL f [] M = .ok [] M := rfl
theorem kCm2_cons {c : Cfg} {elt : Ex} {p : Pt} {conds : List Ex} {ρ0 : Sl} {d : D} {ds : List D} {M : Mem} : kCm2 c elt p conds ρ0 (some (d :: ds)) M = kLc (compL (cmpB c elt p conds ρ0) (d :: ds) M) := kCm2_some
theorem kDm2_cons {c : Cfg} {elt : Ax} {p : Pt} {conds : List Ex} {ρ0 : Sl} {d : D} {ds : List D} {M : Mem} : kDm2 c elt p conds ρ0 (some (d :: ds)) M = kLd (compL (cmpA c elt p conds ρ0) (d :: ds) M) := kDm2_some
theorem kCm2_nil {c : Cfg} {elt : Ex} {p : Pt} {conds : List Ex} {ρ0 : Sl} {M : Mem} : kCm2 c elt p conds ρ0 (some []) M = .ok (.lst []) M := kCm2_some
end VL
open PySem VL
local macro_rules
  | `(tactic| simp! only [$as,*]) => `(tactic| simp -implicitDefEqProofs (disch := (first | assumption | omega | exact List.mem_flatten.mpr ⟨_, by assumption, by assumption⟩ | (intros; with_unfolding_all exact @_root_.id _ rfl) | (simp only [List.length_map, List.length_range, List.length_append, List.length_cons, List.length_nil, List.length_reverse, sizeLine_eq] at *; omega))) only [kSeq_nx, kSeq_rt, kSeq_ex, kSeq_bk, kSeq_ct, E_cons, E_nil, kBd_some, kAsg_ok, kAsg_ex, E_asg, kOwn_ok, kOwn_ex, E_own, getO_0, getO_s, kMu_0, kMu_1, kMuL_some, kM4_some, kM3_ok, kM3_ex, kM2_ok, kM1_ok, kM1b_t, kM0_some, E_app, E_clear, E_rev, kS3_ok, kS2b_t, kS2_ok, kS1b_some, kS1_ok, kS1_ex, E_setk, kP4_ok, kAug2_some, kAug1_ok, kAug0_ok, rdV_0, rdV_s, E_var, E_aug, kExpr_ok, kExpr_ex, E_expr, kRet_ok, kRet_ex, E_ret, E_retN, kRetA_ok, kRetA_ex, E_retA, rtV_ow, rtV_fz, rtV_s, E_retV, kIf_t, kIf_f, kIf_ex, E_ifs, kFor2_some, kFor_ok, kFor_ex, E_for, E_brk, E_cnt, E_pass, E_raise, fzV_ow, fzV_fz, fzV_s, E_freeze, E_kill, E_lit, E_glob, kTup_ok, kTup_ex, E_tup, kLst_ok, kLst_ex, E_lst, kBin2_ok, kBin2_ex, kBin_ok, kBin_ex, E_bin, kNeg_ok, E_neg, kCmp2_ok, kCmp2_ex, kCmp_ok, kCmp_ex, E_cmp, kCh3_t, kCh3_f, kCh2_ok, kCh1_ok, E_chain, kIsN_non, kIsN_int, kIsN_bl, kIsN_str, kIsN_tup, kIsN_lst, kIsN_dic, kIsN_ktup, E_isN, E_and, E_or, kAnd2_t, kAnd2_f, kAnd_ok, kAnd_ex, E_and1, E_and2, kOr2_f, kOr2_t, kOr_ok, kOr_ex, E_or1, E_or2, kTru2_some, kTru_ok, kTru_ex, E_tst, kNot_ok, kNot_ex, E_not, kIte_t, kIte_f, E_ite, kIx2_ok, kIx2_ex, kIx_ok, kIx_ex, E_ix, kSl3_some, kSl2b_ok, kSl2a_some, kSl1_ok, kSl_ok, E_sl, kC2_ok, kC2_ex, kCall_ok, kCall_ex, E_call, kBlt_ok, kBlt_ex, E_blt, kIsi2_some, kIsi_ok, E_isi, kCp2_ok, kCp1_t, kCp1_f, kCp0_some, kLc_ok, kCm_ok, E_comp, E_bor, kEs2_ok, kEs2_ex, kEs_ok, kEs_ex, E_es0, E_es, E_all0, E_all1, kLr2_some, kLr_1, kLr_2, E_lrng, kG3_ok, kG2_n, kG2_s, kG1_ok, E_dget, kX2_ok, kX1_ok, E_dix, kN2_ok, kN1_ok, E_din, kDs3_ok, kDs2_ok, kDs2_ex, kDs1_some, E_dset, kNex_nx, kNex_rt, kFk_dic, E_forK, kPs5_some, kPs4_some, kPs3_ok, kPs2_n, kPs2_s, kPs1_ok, kPs0_some, E_popS, kTr_nx, kTr_rt, kTr_ex, E_try, kPp6_some, kPp5_some, kPp4_some, kPp3_ok, kPp2_n, kPp2_s, kPp1_ok, kPp0_some, E_popK, kCl2_all, kCl2_s, kCl_ok, kCl_ex, E_clr, kO4_ok, kO2_ok, kO1_t, kO1_f, kO0_some, kLo_ok, kCow_ok, E_comp2, kAe_ok, kAe_ex, A_e, kAl_ok, kAl_ex, A_lst, A_dict0, kAf_ok, A_fr, A_call, kAx2_ok, kAx_ok, A_ix, kDp2_ok, kDp1_t, kDp1_f, kDp0_some, kLd_ok, kDm_ok, A_comp, kDn_ok, kDn_ex, A_dn, A_bor, kAs2_ok, kAs_ok, A_as0, A_as, kEl_some, L_a, L_mv, give_a, give_mv, b_add, b_sub, b_mul, b_fdiv, b_mod, b_pow18, b_pow3, b_pow4, b_pow5, b_pow6, b_pow9, b_pow10, b_pow12, b_pow15, b_pow20, b_pow30, b_adds, b_addl, b_addt, b_band, a_add, a_sub, a_adds, c_lt, c_le, c_gt, c_ge, c_eqi, c_nei, c_eqs, c_nes, c_eqb, c_neb, x_ixN, x_ixL, x_l0, x_t0, x_lL, x_tL, x_map, x_mapt, b_strF, i_rng1, i_rng2, i_seq, i_seqt, i_keys, i_rev, i_revt, i_rng3, i_zip, f_len, f_lent, f_int, f_intb, f_list, f_listt, f_tuple, f_tuplet, f_max, f_min, f_abs, f_sum, f_all, f_any, f_maxl, f_minl, f_maxI, f_minI, f_sortI, f_sortP, f_lend, f_lenk, f_listd, i_seqk, x_okKi, x_okKs, p_borAi, p_borAm, kIf_b, kIte_b, kAnd2_b, kOr2_b, kCh3_b, ok_ite, bl_ite, int_ite, str_ite, kSeq_if, fin_if, kC2_if, cmpM_opt, cmpM_some, cmpN_opt, cmpN_some, kDm2_M, kDm2_N, kDm2_F, kCm2_M, kCm2_N, kCm2_F, kCow2_M, kCow2_N, kCow2_F, kO3_M, kO3_N, kO3_F, kO1_b, kDp1_b, kCp1_b, filterMap_ite, filterMap_sm, fr_nil, fr_flat, fr_map, lstA_allB, p_nil, p_path, p_putz, p_putzm, p_zpath, p_dn0, p_dnall, p_dns, p_dnalld, p_slMd, p_slM, p_puts, p_spath, p_dnz, muD_app, kFl_nx, kFl_ct, kFl_bk, kFl_rt, kFl_ex, muD_clear, muD_rev, muD_set, kB_nx, kB_nil, kB_r, kB_cons, kB_fz, kB_ow, kB_same, kB_lst, kB_tup2, kCq_ok, kCo_some, kCo_none, kCo_cons, kCo_nil, kCm2_cons, kDm2_cons, kCm2_nil, R.of_some, RS.fin_nx, RS.fin_rt, RS.fin_ex, cfg_call, cfg_consts, List.getElem?_cons_zero, List.getElem?_cons_succ, List.set_cons_zero, List.set_cons_succ, killS, bindP, bindPs, viewS, viewV_ow, viewV_fz, viewV_un, List.map_cons, List.map_nil, List.length_cons, List.length_nil, truth, isiD, if_true, if_false, Bool.not_true, Bool.not_false, Bool.false_eq_true, Option.map_some, Option.map_none, slM_ow, slM_z, slM_fz, getL_nil, dnP_all, putM_flat, putM_same, isLD_lst, isLD_dic, isLD_tup, isLD_int, isLD_bl, isLD_str, isLD_non, partX, partD, Nat.reduceAdd, Nat.zero_add, ne_eq, reduceCtorEq, not_false_eq_true, not_true_eq_false, or_true, true_or, or_false, false_or, and_true, true_and, and_false, false_and, decide_true, decide_false, List.isEmpty_nil, List.isEmpty_cons, Bool.and_true, Bool.true_and, Bool.and_false, Bool.false_and, Bool.or_true, Bool.or_false, Bool.true_or, Bool.false_or, beq_self_eq_true, borR_bl, borR_int, lstA_nil, forB_eq, cmpA_eq, cmpB_eq, muK, iL, Int.reduceToNat, List.length_map, List.length_range, List.length_reverse, List.length_append, List.map_append, lstA_map, lstA_mapz, decide_eq_true_eq, decide_not, Bool.not_eq_true, Bool.not_eq_true', decide_eq_false_iff_not, Bool.not_not, Bool.and_eq_true, Bool.or_eq_true, Nat.reduceSub, Int.toNat_natCast, List.all_cons, List.all_nil, startS, List.replicate, List.cons_append, List.nil_append, decide_eq_true_eq, eq_self, Int.cast_ofNat_Int, lookD_map, $as,*])

/-! L0: a law's own helpers -/
namespace VL
open PySem
/-! ### the same -/
/- _law_same(told, due): 0=told 1=due 2=k -/
def t__law_same_l1 (c__law_same : Nat) : List Sm := [.ifs (.not (.call c__law_same [(.ix (.var 0) (.var 2)), (.ix (.var 1) (.var 2))])) [.ret (.lit (.bl false))] [],
  .kill [2]]
def t__law_same (c__law_same : Nat) : List Sm := [.ifs (.isi (.var 1) .list) [.ifs (.or [(.not (.isi (.var 0) .list)), (.cmp .ne (.blt .len [(.var 0)]) (.blt .len [(.var 1)]))]) [.ret (.lit (.bl false))] []] [.ifs (.isi (.var 1) .tuple) [.ifs (.or [(.not (.isi (.var 0) .tuple)), (.cmp .ne (.blt .len [(.var 0)]) (.blt .len [(.var 1)]))]) [.ret (.lit (.bl false))] []] [.ifs (.isN (.var 1) false) [.ret (.isN (.var 0) false)] [.ifs (.isi (.var 1) .bool) [.ret (.and [(.isi (.var 0) .bool), (.cmp .eq (.var 0) (.var 1))])] [.ifs (.isi (.var 1) .int) [.ret (.and [(.isi (.var 0) .int), (.not (.isi (.var 0) .bool)), (.cmp .eq (.var 0) (.var 1))])] [.ret (.and [(.isi (.var 0) .str), (.cmp .eq (.var 0) (.var 1))])]]]]],
  .for_ (.v 2) .rng1 [(.blt .len [(.var 1)])] (t__law_same_l1 c__law_same),
  .ret (.lit (.bl true))]
theorem same_loop {P : Prog} {f n : Nat} {M : Mem} {d : D} {ds : List D} (hd : d = .lst ds ∨ d = .tup ds) (ih : ∀ x ∈ ds, callN P n f [x, x] M = .ok (Md.z, .bl true) M) :
    forL (forB (cfgN P n) (.v 2) (t__law_same_l1 f)) (rngN ds.length) [.fz d, .fz d, .un] M = .nx [.fz d, .fz d, .un] M := by
  refine forL_same _ fun x hx => ?_
  simp only [rngN, List.mem_map, List.mem_range] at hx
  obtain ⟨k, hk, rfl⟩ := hx
  have e : ds[k]? = some ds[k] := List.getElem?_eq_getElem hk
  have e2 : ixD d (.int (k : Nat)) = some ds[k] := by
    rcases hd with rfl | rfl <;> exact atI_nat e
  have e3 := ih ds[k] (List.getElem_mem hk)
  simp! only [forB, t__law_same_l1, e2, e3]
abbrev S__law_same (P : Prog) (f : Nat) : Prop := ∀ (n : Nat) (d : D) (M : Mem), pl n d → callN P n f [d, d] M = .ok (Md.z, .bl true) M
theorem p__law_same {P : Prog} {f : Nat} (hP : P.fns[f]? = some ⟨2, 3, t__law_same f⟩) : S__law_same P f
  | 0, d, M, h => h.elim
  | n + 1, d, M, h => by
    rw [callN_eq hP rfl]
    cases d with
    | lst ds =>
      have l := same_loop (P := P) (f := f) (n := n) (M := M) (d := .lst ds) (.inl rfl) fun x hx => p__law_same hP n x M (h.2 x hx)
      have hl : ds.length ≤ 16777216 := by have := h.1; rw [sizeLine_eq] at this; exact this
      simp! only [t__law_same, l]
    | tup ds =>
      have l := same_loop (P := P) (f := f) (n := n) (M := M) (d := .tup ds) (.inr rfl) fun x hx => p__law_same hP n x M (h.2 x hx)
      have hl : ds.length ≤ 16777216 := by have := h.1; rw [sizeLine_eq] at this; exact this
      simp! only [t__law_same, l]
    | non => simp! only [t__law_same]
    | bl b => simp! only [t__law_same]
    | int b => simp! only [t__law_same]
    | str b => simp! only [t__law_same]
    | _ => exact h.elim
/-! ### cells of the script -/
def cellv (ns : List Int) (k : Nat) : Int := (ns[k]?).getD 0
/- _law_cell(script, k): 0=script 1=k -/
def t__law_cell : List Sm := [.ifs (.cmp .lt (.var 1) (.blt .len [(.var 0)])) [.ret (.blt .int [(.ix (.var 0) (.var 1))])] [],
  .ret (.lit (.int 0))]
abbrev S__law_cell (P : Prog) (f : Nat) : Prop := ∀ n ns (k : Int) M, 0 ≤ k → callN P (n + 1) f [iL ns, .int k] M = .ok (Md.z, .int (cellv ns k.toNat)) M
theorem p__law_cell {P : Prog} {f : Nat} (hP : P.fns[f]? = some ⟨2, 2, t__law_cell⟩) : S__law_cell P f := by
  intro n ns k M hk0
  rw [callN_eq hP rfl]
  by_cases h : k < ns.length
  · simp! only [t__law_cell, iL, List.length_map, h, x_map]
    simp [cellv, show k.toNat < ns.length by omega]
  · simp! only [t__law_cell, iL, List.length_map, h]
    simp [cellv, show ns.length ≤ k.toNat by omega]
/-! ### drawn numbers -/
def mix (cell : Int) (k : Nat) : Int :=
  let m := (cell * 48271 + k * 69621 + 7) % 2147483647
  (m * m + m * 40692 + k * 16807 + 11) % 2147483399
def nums (cell : Int) (count : Nat) (limit : Int) : List Int :=
  if 1000000000000000000 ≤ cell then (List.range count).map fun k => cell / limit ^ k % limit else (List.range count).map fun k => mix cell k / 32 % limit
theorem nums_length (cell : Int) (count : Nat) (limit : Int) : (nums cell count limit).length = count := by
  unfold nums; split <;> simp
theorem nums_get {cell : Int} {count : Nat} {limit : Int} {k : Nat} (h : k < count) (hl : 0 < limit) : ∃ x, (nums cell count limit)[k]? = some x ∧ 0 ≤ x ∧ x < limit := by
  unfold nums
  split
  · exact ⟨cell / limit ^ k % limit, by simp [h], Int.emod_nonneg _ (by omega), Int.emod_lt_of_pos _ hl⟩
  · exact ⟨mix cell k / 32 % limit, by simp [h], Int.emod_nonneg _ (by omega), Int.emod_lt_of_pos _ hl⟩
/- _law_numbers(cell, count, limit): 0=cell 1=count 2=limit 3=found 4=k 5=mixed -/
def t__law_numbers_l1 : List Sm := [.mut 3 [] .app (.a (.e (.bin .mod (.blt .int [(.var 0)]) (.var 2)))),
  .asg (.v 0) (.bin .fdiv (.blt .int [(.var 0)]) (.var 2)),
  .kill [4]]
def t__law_numbers_l2 : List Sm := [.asg (.v 5) (.bin .mod (.blt .int [(.bin .add (.bin .add (.bin .mul (.var 0) (.lit (.int 48271))) (.bin .mul (.var 4) (.lit (.int 69621)))) (.lit (.int 7)))]) (.lit (.int 2147483647))),
  .asg (.v 5) (.bin .mod (.blt .int [(.bin .add (.bin .add (.bin .add (.bin .mul (.var 5) (.var 5)) (.bin .mul (.var 5) (.lit (.int 40692)))) (.bin .mul (.var 4) (.lit (.int 16807)))) (.lit (.int 11)))]) (.lit (.int 2147483399))),
  .mut 3 [] .app (.a (.e (.bin .mod (.blt .int [(.bin .fdiv (.var 5) (.lit (.int 32)))]) (.var 2)))),
  .kill [4, 5]]
def t__law_numbers : List Sm := [.own 3 (.dn (.lst [])),
  .ifs (.cmp .ge (.var 0) (.bin .pow (.lit (.int 10)) (.lit (.int 18)))) [.for_ (.v 4) .rng1 [(.var 1)] (t__law_numbers_l1), .freeze 3, .ret (.var 3)] [],
  .for_ (.v 4) .rng1 [(.var 1)] (t__law_numbers_l2),
  .freeze 3,
  .ret (.var 3)]
abbrev S__law_numbers (P : Prog) (f : Nat) : Prop := ∀ n cell (count : Int) limit M, 0 ≤ count → count ≤ 16777216 → 0 < limit → limit < 1073741824 → callN P (n + 1) f [.int cell, .int count, .int limit] M = .ok (.z, iL (nums cell count.toNat limit)) M
theorem p__law_numbers {P : Prog} {f : Nat} (hP : P.fns[f]? = some ⟨3, 6, t__law_numbers⟩) : S__law_numbers P f := by
  intro n cell count limit M hc0 hc h0 h1
  obtain ⟨count, rfl⟩ := Int.eq_ofNat_of_zero_le hc0
  rw [Int.toNat_natCast]
  rw [callN_eq hP rfl]
  by_cases h : (1000000000000000000 : Int) ≤ cell
  · have l := forL_N (M := M) (n := count) (body := forB (cfgN P n) (.v 4) t__law_numbers_l1) (ρ0 := [.fz (.int cell), .fz (.int count), .fz (.int limit), .ow (.s .z) (.lst []), .un, .un])
      (fun i => [.fz (.int (cell / limit ^ i)), .fz (.int count), .fz (.int limit), .ow (.s .z) (.lst ((List.range i).map fun k => .int (cell / limit ^ k % limit))), .un, .un]) (by simp) rfl fun i hi => by
        simp! only [forB, t__law_numbers_l1]
        rw [Int.pow_succ, ← Int.ediv_ediv_of_nonneg (Int.le_of_lt (Int.pow_pos h0)), List.range_succ, List.map_append]
        simp only [List.map_cons, List.map_nil]
    simp! only [t__law_numbers, h, l]
    simp only [nums, if_pos h, iL, List.map_map, Function.comp_def]
  · have l := forL_N (M := M) (n := count) (body := forB (cfgN P n) (.v 4) t__law_numbers_l2) (ρ0 := [.fz (.int cell), .fz (.int count), .fz (.int limit), .ow (.s .z) (.lst []), .un, .un])
      (fun i => [.fz (.int cell), .fz (.int count), .fz (.int limit), .ow (.s .z) (.lst ((List.range i).map fun k => .int (mix cell k / 32 % limit))), .un, .un]) (by simp) rfl fun i hi => by
        simp! only [forB, t__law_numbers_l2]
        rw [List.range_succ, List.map_append]
        simp only [List.map_cons, List.map_nil, mix]
    simp! only [t__law_numbers, h, l]
    simp only [nums, if_neg h, iL, List.map_map, Function.comp_def]

/-! ### picks and draws -/
theorem pick_int {l : List Int} {i : Int} (p : Int → Prop) (h : ∀ x ∈ l, p x) (h0 : 0 ≤ i) (h1 : i < l.length) : ∃ m, p m ∧ ixD (.lst (l.map .int)) (.int i) = some (.int m) := by
  refine ⟨l.getD i.toNat default, h _ (mem_getD (by omega)), ?_⟩
  rw [x_map h0 h1]
theorem pick_str {l : List Str} {i : Int} (h0 : 0 ≤ i) (h1 : i < l.length) : ∃ m, m ∈ l ∧ ixD (.lst (l.map .str)) (.int i) = some (.str m) := by
  obtain ⟨n, rfl⟩ := Int.eq_ofNat_of_zero_le h0
  have hn : n < l.length := by omega
  refine ⟨l[n], List.getElem_mem hn, ?_⟩
  rw [x_lst]
  simp [hn]
/-- numbers from 0 to below limit -/
def Drw (limit : Int) (l : List Int) : Prop := ∀ x ∈ l, 0 ≤ x ∧ x < limit
theorem Drw.nil {limit : Int} : Drw limit [] := fun _ h => by cases h
theorem Drw.snoc {limit x : Int} {l : List Int} (h : Drw limit l) (h0 : 0 ≤ x) (h1 : x < limit) : Drw limit (l ++ [x]) := fun y hy => by
  rcases List.mem_append.mp hy with z | z
  · exact h y z
  · rw [List.mem_singleton.mp z]; exact ⟨h0, h1⟩
theorem Drw.get {limit : Int} {l : List Int} (h : Drw limit l) {i : Nat} (hi : i < l.length) : 0 ≤ l.getD i default ∧ l.getD i default < limit := h _ (mem_getD hi)
theorem nums_drw (cell : Int) (count : Nat) {limit : Int} (hl : 0 < limit) : Drw limit (nums cell count limit) := fun x hx => by
  unfold nums at hx
  split at hx
  all_goals
    simp only [List.mem_map] at hx
    obtain ⟨k, _, rfl⟩ := hx
    exact ⟨Int.emod_nonneg _ (by omega), Int.emod_lt_of_pos _ hl⟩
/-- a loop that draws: the list in the slot grows -/
theorem forL_draw {body : D → Sl → Mem → RS} {M : Mem} {n : Nat} {β : Type} {limit : Int} (st : β → List Int → Sl) {b0 : β} (h : ∀ i b l, i < n → l.length = i → ∃ b' x, 0 ≤ x ∧ x < limit ∧ body (.int (i : Nat)) (st b l) M = .nx (st b' (l ++ [x])) M) :
    ∃ b l, forL body (rngN n) (st b0 []) M = .nx (st b l) M ∧ l.length = n ∧ Drw limit l := by
  obtain ⟨ρ, e, b, l, rfl, hl, hd⟩ := forL_relN (body := body) (M := M) (n := n) (fun i ρ => ∃ b l, ρ = st b l ∧ l.length = i ∧ Drw limit l) ⟨b0, [], rfl, rfl, .nil⟩ fun i ρ hi ⟨b, l, e, hl, hd⟩ => by
    obtain ⟨b', x, h0, h1, e2⟩ := h i b l hi hl
    subst e
    exact ⟨_, e2, b', l ++ [x], rfl, by simp [hl], hd.snoc h0 h1⟩
  exact ⟨b, l, e, hl, hd⟩
theorem cut9 {l : List Int} (h : l.length = 9) : ∃ a0 a1 a2 a3 a4 a5 a6 a7 a8, l = [a0, a1, a2, a3, a4, a5, a6, a7, a8] := by
  match l, h with
  | [a0, a1, a2, a3, a4, a5, a6, a7, a8], _ => exact ⟨_, _, _, _, _, _, _, _, _, rfl⟩

/-! ### == of data without truth values -/
def nb : Nat → D → Prop
  | 0, _ => False
  | _ + 1, .non => True
  | _ + 1, .int _ => True
  | _ + 1, .str s => PyData.canLay0 (.str s) = true
  | n + 1, .tup ds => ∀ x ∈ ds, nb n x
  | n + 1, .lst ds => ∀ x ∈ ds, nb n x
  | _ + 1, _ => False
theorem nb_py : ∀ {n : Nat} {d : D}, nb n d → ∃ x, D.py d = some x ∧ x.canLay0 = true ∧ x.depth ≤ n
  | 0, _, h => h.elim
  | n + 1, d, h => by
    have all : ∀ ds : List D, (∀ x ∈ ds, nb n x) → ∃ xs, D.pys ds = some xs ∧ PyData.canLayAll0 xs = true ∧ PyData.depthAll xs ≤ n := by
      intro ds
      induction ds with
      | nil => exact fun _ => ⟨[], rfl, rfl, by simp [PyData.depthAll]⟩
      | cons d ds ih =>
        intro h
        obtain ⟨x, e1, e2, e3⟩ := nb_py (h d List.mem_cons_self)
        obtain ⟨xs, f1, f2, f3⟩ := ih fun x hx => h x (List.mem_cons_of_mem _ hx)
        refine ⟨x :: xs, by simp only [D.pys, e1, f1], by simp only [PyData.canLayAll0, e2, f2, Bool.and_self], ?_⟩
        simp only [PyData.depthAll]
        omega
    cases d with
    | non => exact ⟨.none, rfl, rfl, by simp [PyData.depth]⟩
    | int i => exact ⟨.int i, rfl, rfl, by simp [PyData.depth]⟩
    | str s => exact ⟨.str s, rfl, h, by simp [PyData.depth]⟩
    | tup ds =>
      obtain ⟨xs, e1, e2, e3⟩ := all ds h
      exact ⟨.tuple xs, by simp only [D.py, e1, Option.map_some], e2, by simp only [PyData.depth]; omega⟩
    | lst ds =>
      obtain ⟨xs, e1, e2, e3⟩ := all ds h
      exact ⟨.list xs, by simp only [D.py, e1, Option.map_some], e2, by simp only [PyData.depth]; omega⟩
    | _ => exact h.elim
theorem nb_eqv : ∀ {n m : Nat} {a b : D} {x y : PyData}, nb n a → nb m b → D.py a = some x → D.py b = some y → PyData.eqv x y = decide (a = b)
  | 0, _, _, _, _, _, h, _, _, _ => h.elim
  | _, 0, _, _, _, _, _, h, _, _ => h.elim
  | n + 1, m + 1, a, b, x, y, ha, hb, ex, ey => by
    have all : ∀ (as bs : List D) (xs ys : List PyData), (∀ x ∈ as, nb n x) → (∀ x ∈ bs, nb m x) → D.pys as = some xs → D.pys bs = some ys → PyData.eqvAll xs ys = decide (as = bs) := by
      intro as
      induction as with
      | nil =>
        intro bs xs ys h1 h2 e1 e2
        simp only [D.pys, Option.some.injEq] at e1; subst e1
        cases bs with
        | nil => simp only [D.pys, Option.some.injEq] at e2; subst e2; rfl
        | cons b bs =>
          simp only [D.pys] at e2
          split at e2
          · simp only [Option.some.injEq] at e2; subst e2; simp [PyData.eqvAll]
          · cases e2
      | cons a as ih =>
        intro bs xs ys h1 h2 e1 e2
        simp only [D.pys] at e1
        split at e1
        · rename_i p q e3 e4
          simp only [Option.some.injEq] at e1; subst e1
          cases bs with
          | nil => simp only [D.pys, Option.some.injEq] at e2; subst e2; simp [PyData.eqvAll]
          | cons b bs =>
            simp only [D.pys] at e2
            split at e2
            · rename_i p2 q2 e5 e6
              simp only [Option.some.injEq] at e2; subst e2
              simp only [PyData.eqvAll, nb_eqv (h1 a List.mem_cons_self) (h2 b List.mem_cons_self) e3 e5, ih bs q q2 (fun x hx => h1 x (List.mem_cons_of_mem _ hx)) (fun x hx => h2 x (List.mem_cons_of_mem _ hx)) e4 e6]
              by_cases z1 : a = b <;> by_cases z2 : as = bs <;> simp [z1, z2]
            · cases e2
        · cases e1
    cases a <;> first | exact ha.elim | skip
    all_goals (cases b <;> first | exact hb.elim | skip)
    all_goals simp only [D.py, Option.some.injEq, Option.map_eq_some_iff] at ex ey
    all_goals first
      | (subst ex; subst ey; simp [PyData.eqv]; done)
      | (subst ex; subst ey; rw [Bool.eq_iff_iff]; simp [PyData.eqv]; done)
      | (obtain ⟨p, e1, rfl⟩ := ex; subst ey; simp [PyData.eqv]; done)
      | (obtain ⟨p, e1, rfl⟩ := ey; subst ex; simp [PyData.eqv]; done)
      | (obtain ⟨p, e1, rfl⟩ := ex; obtain ⟨q, e2, rfl⟩ := ey; simp [PyData.eqv]; done)
      | (obtain ⟨p, e1, rfl⟩ := ex; obtain ⟨q, e2, rfl⟩ := ey; simp only [PyData.eqv, all _ _ _ _ ha hb e1 e2]; simp)
theorem eqD_nb {n m : Nat} {a b : D} (ha : nb n a) (hb : nb m b) (hn : n ≤ 64) (hm : m ≤ 64) : eqD a b = some (decide (a = b)) := by
  obtain ⟨x, e1, e2, e3⟩ := nb_py ha
  obtain ⟨y, f1, f2, f3⟩ := nb_py hb
  have key : (match D.py a, D.py b with
      | some x, some y => if SeqAt.shaped x = true ∧ SeqAt.shaped y = true then some (PyData.eqv x y) else none
      | _, _ => none) = some (decide (a = b)) := by
    rw [e1, f1]
    have s1 : SeqAt.shaped x = true := by unfold SeqAt.shaped; simp [e2]; omega
    have s2 : SeqAt.shaped y = true := by unfold SeqAt.shaped; simp [f2]; omega
    simp only [s1, s2, and_self, if_true, nb_eqv ha hb e1 f1]
  unfold eqD
  split
  · simp
  · simp
  · simp
  · exact key
theorem c_eqD {n m : Nat} {a b : D} (ha : nb n a) (hb : nb m b) (hn : n ≤ 64) (hm : m ≤ 64) : cmpD .eq a b = some (.bl (decide (a = b))) := by simp only [cmpD, eqD_nb ha hb hn hm, Option.map_some]
theorem c_neD {n m : Nat} {a b : D} (ha : nb n a) (hb : nb m b) (hn : n ≤ 64) (hm : m ≤ 64) : cmpD .ne a b = some (.bl (!decide (a = b))) := by simp only [cmpD, eqD_nb ha hb hn hm, Option.map_some]
theorem nb_lst {α : Type} {n : Nat} {f : α → D} {l : List α} (h : ∀ x ∈ l, nb n (f x)) : nb (n + 1) (.lst (l.map f)) := fun x hx => by
  obtain ⟨y, hy, rfl⟩ := List.mem_map.mp hx
  exact h y hy
end VL

/-! L1: layers, packets, faces -/
namespace VL
open PySem
/-- sheet, row, col, face, turn -/
structure Lay where
  sh : Int
  row : Int
  col : Int
  fc : Int
  tn : Int
  deriving DecidableEq, Inhabited
def Lay.enc (l : Lay) : D := .tup [.int l.sh, .int l.row, .int l.col, .int l.fc, .int l.tn]
abbrev Stk := List Lay
abbrev Pk := List (List Stk)
def encSt (s : Stk) : D := .lst (s.map Lay.enc)
def encRow (r : List Stk) : D := .lst (r.map encSt)
def encPk (p : Pk) : D := .lst (p.map encRow)
/-- a face -/
structure Fce where
  sh : Int
  row : Int
  col : Int
  fc : Int
  deriving DecidableEq, Inhabited
def Fce.enc (l : Fce) : D := .tup [.int l.sh, .int l.row, .int l.col, .int l.fc]
def Lay.up (l : Lay) : Fce := ⟨l.sh, l.row, l.col, l.fc⟩
def Lay.dn (l : Lay) : Fce := ⟨l.sh, l.row, l.col, 1 - l.fc⟩
def Lay.ov (l : Lay) : Lay := ⟨l.sh, l.row, l.col, 1 - l.fc, l.tn⟩
def Lay.lv (l : Lay) : Lay := ⟨l.sh, l.row, l.col, 1 - l.fc, 1 - l.tn⟩
def Lay.sp (l : Lay) : Lay := ⟨l.sh, l.row, l.col, l.fc, 1 - l.tn⟩
def flatP (s : Int) (r c : Nat) : Pk := (List.range r).map fun (i : Nat) => (List.range c).map fun (j : Nat) => [⟨s, i, j, 0, 0⟩]
def stV (s : Stk) : Stk := s.reverse.map Lay.ov
def stH (s : Stk) : Stk := s.reverse.map Lay.lv
def stS (s : Stk) : Stk := s.map Lay.sp
def pkV (p : Pk) : Pk := p.map fun r => r.reverse.map stV
def pkH (p : Pk) : Pk := p.reverse.map fun r => r.map stH
def pkS (p : Pk) : Pk := p.reverse.map fun r => r.reverse.map stS
/-- the program -/
/- flat(sheet, rows, cols): 0=sheet 1=rows 2=cols 3=row 4=col -/
def t_flat : List Sm := [.ret (.comp (.comp (.lst [(.tup [(.var 0), (.var 3), (.var 4), (.lit (.int 0)), (.lit (.int 0))])]) (.v 4) .rng1 [(.var 2)] [] [4]) (.v 3) .rng1 [(.var 1)] [] [3])]
abbrev S_flat (P : Prog) (f : Nat) : Prop := ∀ n s (r c : Int) M, 0 ≤ r ∧ r ≤ 16777216 → 0 ≤ c ∧ c ≤ 16777216 → callN P (n + 1) f [.int s, .int r, .int c] M = .ok (.z, encPk (flatP s r.toNat c.toNat)) M
theorem p_flat {P : Prog} {f : Nat} (hP : P.fns[f]? = some ⟨3, 5, t_flat⟩) : S_flat P f := by
  intro n s r c M hr hc
  obtain ⟨r, rfl⟩ := Int.eq_ofNat_of_zero_le hr.1
  obtain ⟨c, rfl⟩ := Int.eq_ofNat_of_zero_le hc.1
  rw [callN_eq hP rfl]
  simp! only [t_flat, encPk, flatP, encRow, encSt, Lay.enc, List.map_map, Function.comp_def]
/- extent(packet): 0=packet -/
def t_extent : List Sm := [.ret (.tup [(.blt .len [(.var 0)]), (.blt .len [(.ix (.var 0) (.lit (.int 0)))])])]
abbrev S_extent (P : Prog) (f : Nat) : Prop := ∀ n (p : Pk) M, p ≠ [] → callN P (n + 1) f [encPk p] M = .ok (Md.z, .tup [.int p.length, .int (p.getD 0 []).length]) M
theorem p_extent {P : Prog} {f : Nat} (hP : P.fns[f]? = some ⟨1, 1, t_extent⟩) : S_extent P f := by
  intro n p M hr
  rw [callN_eq hP rfl]
  match p, hr with
  | r :: p, _ => simp! only [t_extent, encPk, encRow, List.length_map, List.getD_cons_zero]
/- upper_face(layer): 0=layer 1=sheet 2=row 3=col 4=face 5=_ -/
def t_upper_face : List Sm := [.asg (.t [(.v 1), (.v 2), (.v 3), (.v 4), (.v 5)]) (.var 0),
  .ret (.tup [(.var 1), (.var 2), (.var 3), (.var 4)])]
abbrev S_upper_face (P : Prog) (f : Nat) : Prop := ∀ n (l : Lay) M, callN P (n + 1) f [l.enc] M = .ok (Md.z, l.up.enc) M
theorem p_upper_face {P : Prog} {f : Nat} (hP : P.fns[f]? = some ⟨1, 6, t_upper_face⟩) : S_upper_face P f := by
  intro n l M
  rw [callN_eq hP rfl]
  simp! only [t_upper_face, Lay.enc, Fce.enc, Lay.up]
/- lower_face(layer): 0=layer 1=sheet 2=row 3=col 4=face 5=_ -/
def t_lower_face : List Sm := [.asg (.t [(.v 1), (.v 2), (.v 3), (.v 4), (.v 5)]) (.var 0),
  .ret (.tup [(.var 1), (.var 2), (.var 3), (.bin .sub (.lit (.int 1)) (.var 4))])]
abbrev S_lower_face (P : Prog) (f : Nat) : Prop := ∀ n (l : Lay) M, callN P (n + 1) f [l.enc] M = .ok (Md.z, l.dn.enc) M
theorem p_lower_face {P : Prog} {f : Nat} (hP : P.fns[f]? = some ⟨1, 6, t_lower_face⟩) : S_lower_face P f := by
  intro n l M
  rw [callN_eq hP rfl]
  simp! only [t_lower_face, Lay.enc, Fce.enc, Lay.dn]
/- over_upright(layer): 0=layer 1=sheet 2=row 3=col 4=face 5=turn -/
def t_over_upright : List Sm := [.asg (.t [(.v 1), (.v 2), (.v 3), (.v 4), (.v 5)]) (.var 0),
  .ret (.tup [(.var 1), (.var 2), (.var 3), (.bin .sub (.lit (.int 1)) (.var 4)), (.var 5)])]
abbrev S_over_upright (P : Prog) (f : Nat) : Prop := ∀ n (l : Lay) M, callN P (n + 1) f [l.enc] M = .ok (Md.z, l.ov.enc) M
theorem p_over_upright {P : Prog} {f : Nat} (hP : P.fns[f]? = some ⟨1, 6, t_over_upright⟩) : S_over_upright P f := by
  intro n l M
  rw [callN_eq hP rfl]
  simp! only [t_over_upright, Lay.enc, Lay.ov]
/- over_level(layer): 0=layer 1=sheet 2=row 3=col 4=face 5=turn -/
def t_over_level : List Sm := [.asg (.t [(.v 1), (.v 2), (.v 3), (.v 4), (.v 5)]) (.var 0),
  .ret (.tup [(.var 1), (.var 2), (.var 3), (.bin .sub (.lit (.int 1)) (.var 4)), (.bin .sub (.lit (.int 1)) (.var 5))])]
abbrev S_over_level (P : Prog) (f : Nat) : Prop := ∀ n (l : Lay) M, callN P (n + 1) f [l.enc] M = .ok (Md.z, l.lv.enc) M
theorem p_over_level {P : Prog} {f : Nat} (hP : P.fns[f]? = some ⟨1, 6, t_over_level⟩) : S_over_level P f := by
  intro n l M
  rw [callN_eq hP rfl]
  simp! only [t_over_level, Lay.enc, Lay.lv]
/- spun_layer(layer): 0=layer 1=sheet 2=row 3=col 4=face 5=turn -/
def t_spun_layer : List Sm := [.asg (.t [(.v 1), (.v 2), (.v 3), (.v 4), (.v 5)]) (.var 0),
  .ret (.tup [(.var 1), (.var 2), (.var 3), (.var 4), (.bin .sub (.lit (.int 1)) (.var 5))])]
abbrev S_spun_layer (P : Prog) (f : Nat) : Prop := ∀ n (l : Lay) M, callN P (n + 1) f [l.enc] M = .ok (Md.z, l.sp.enc) M
theorem p_spun_layer {P : Prog} {f : Nat} (hP : P.fns[f]? = some ⟨1, 6, t_spun_layer⟩) : S_spun_layer P f := by
  intro n l M
  rw [callN_eq hP rfl]
  simp! only [t_spun_layer, Lay.enc, Lay.sp]
/- stack_over(stack, line): 0=stack 1=line 2=layer -/
def t_stack_over (c_over_upright : Nat) (c_over_level : Nat) : List Sm := [.ifs (.cmp .eq (.var 1) (.lit (.str "V"))) [.ret (.comp (.call c_over_upright [(.var 2)]) (.v 2) .rev [(.var 0)] [] [2])] [],
  .ret (.comp (.call c_over_level [(.var 2)]) (.v 2) .rev [(.var 0)] [] [2])]
abbrev S_stack_overV (P : Prog) (f : Nat) : Prop := ∀ n (s : Stk) M, callN P (n + 2) f [encSt s, .str "V"] M = .ok (.z, encSt (stV s)) M
abbrev S_stack_overH (P : Prog) (f : Nat) : Prop := ∀ n (s : Stk) M, callN P (n + 2) f [encSt s, .str "H"] M = .ok (.z, encSt (stH s)) M
theorem p_stack_overV {P : Prog} {f a b : Nat} (hP : P.fns[f]? = some ⟨2, 3, t_stack_over a b⟩) (h1 : S_over_upright P a) : S_stack_overV P f := by
  intro n s M
  rw [callN_eq hP rfl]
  simp! only [t_stack_over, encSt, stV, ← List.map_reverse, h1, List.map_map, Function.comp_def]
theorem p_stack_overH {P : Prog} {f a b : Nat} (hP : P.fns[f]? = some ⟨2, 3, t_stack_over a b⟩) (h1 : S_over_level P b) : S_stack_overH P f := by
  intro n s M
  rw [callN_eq hP rfl]
  simp! only [t_stack_over, encSt, stH, ← List.map_reverse, h1, List.map_map, Function.comp_def]
/- spun_stack(stack): 0=stack 1=layer -/
def t_spun_stack (c_spun_layer : Nat) : List Sm := [.ret (.comp (.call c_spun_layer [(.var 1)]) (.v 1) .seq [(.var 0)] [] [1])]
abbrev S_spun_stack (P : Prog) (f : Nat) : Prop := ∀ n (s : Stk) M, callN P (n + 2) f [encSt s] M = .ok (.z, encSt (stS s)) M
theorem p_spun_stack {P : Prog} {f a : Nat} (hP : P.fns[f]? = some ⟨1, 2, t_spun_stack a⟩) (h1 : S_spun_layer P a) : S_spun_stack P f := by
  intro n s M
  rw [callN_eq hP rfl]
  simp! only [t_spun_stack, encSt, stS, h1, List.map_map, Function.comp_def]
/- packet_over(packet, line): 0=packet 1=line 2=row 3=stack -/
def t_packet_over (c_stack_over : Nat) : List Sm := [.ifs (.cmp .eq (.var 1) (.lit (.str "V"))) [.ret (.comp (.comp (.call c_stack_over [(.var 3), (.var 1)]) (.v 3) .rev [(.var 2)] [] [3]) (.v 2) .seq [(.var 0)] [] [2])] [],
  .ret (.comp (.comp (.call c_stack_over [(.var 3), (.var 1)]) (.v 3) .seq [(.var 2)] [] [3]) (.v 2) .rev [(.var 0)] [] [2])]
abbrev S_packet_overV (P : Prog) (f : Nat) : Prop := ∀ n (s : Pk) M, callN P (n + 3) f [encPk s, .str "V"] M = .ok (.z, encPk (pkV s)) M
abbrev S_packet_overH (P : Prog) (f : Nat) : Prop := ∀ n (s : Pk) M, callN P (n + 3) f [encPk s, .str "H"] M = .ok (.z, encPk (pkH s)) M
theorem p_packet_overV {P : Prog} {f a : Nat} (hP : P.fns[f]? = some ⟨2, 4, t_packet_over a⟩) (h1 : S_stack_overV P a) : S_packet_overV P f := by
  intro n s M
  rw [callN_eq hP rfl]
  simp! only [t_packet_over, encPk, encRow, pkV, ← List.map_reverse, h1, List.map_map, Function.comp_def]
theorem p_packet_overH {P : Prog} {f a : Nat} (hP : P.fns[f]? = some ⟨2, 4, t_packet_over a⟩) (h1 : S_stack_overH P a) : S_packet_overH P f := by
  intro n s M
  rw [callN_eq hP rfl]
  simp! only [t_packet_over, encPk, encRow, pkH, ← List.map_reverse, h1, List.map_map, Function.comp_def]
/- spun_packet(packet): 0=packet 1=row 2=stack -/
def t_spun_packet (c_spun_stack : Nat) : List Sm := [.ret (.comp (.comp (.call c_spun_stack [(.var 2)]) (.v 2) .rev [(.var 1)] [] [2]) (.v 1) .rev [(.var 0)] [] [1])]
abbrev S_spun_packet (P : Prog) (f : Nat) : Prop := ∀ n (s : Pk) M, callN P (n + 3) f [encPk s] M = .ok (.z, encPk (pkS s)) M
theorem p_spun_packet {P : Prog} {f a : Nat} (hP : P.fns[f]? = some ⟨1, 3, t_spun_packet a⟩) (h1 : S_spun_stack P a) : S_spun_packet P f := by
  intro n s M
  rw [callN_eq hP rfl]
  simp! only [t_spun_packet, encPk, encRow, pkS, ← List.map_reverse, h1, List.map_map, Function.comp_def]
/- copied(packet): 0=packet 1=row 2=stack -/
def t_copied : List Sm := [.ret (.comp (.comp (.blt .list [(.var 2)]) (.v 2) .seq [(.var 1)] [] [2]) (.v 1) .seq [(.var 0)] [] [1])]
abbrev S_copied (P : Prog) (f : Nat) : Prop := ∀ n (s : Pk) M, callN P (n + 1) f [encPk s] M = .ok (.z, encPk s) M
theorem p_copied {P : Prog} {f : Nat} (hP : P.fns[f]? = some ⟨1, 3, t_copied⟩) : S_copied P f := by
  intro n s M
  rw [callN_eq hP rfl]
  simp! only [t_copied, encPk, encRow, encSt]
  rfl
/- _law_copy(packet): 0=packet 1=row 2=stack -/
def t__law_copy : List Sm := [.ret (.comp (.comp (.blt .list [(.var 2)]) (.v 2) .seq [(.var 1)] [] [2]) (.v 1) .seq [(.var 0)] [] [1])]
theorem p__law_copy {P : Prog} {f : Nat} (hP : P.fns[f]? = some ⟨1, 3, t__law_copy⟩) : S_copied P f := by
  intro n s M
  rw [callN_eq hP rfl]
  simp! only [t__law_copy, encPk, encRow, encSt]
  rfl
/- turned(packet, turning): 0=packet 1=turning -/
def t_turned (c_copied : Nat) (c_spun_packet : Nat) (c_packet_over : Nat) : List Sm := [.ifs (.cmp .eq (.var 1) (.lit (.str "none"))) [.ret (.call c_copied [(.var 0)])] [],
  .ifs (.cmp .eq (.var 1) (.lit (.str "spin"))) [.ret (.call c_spun_packet [(.var 0)])] [],
  .ret (.call c_packet_over [(.var 0), (.var 1)])]
abbrev S_turned0 (P : Prog) (f : Nat) : Prop := ∀ n (s : Pk) M, callN P (n + 4) f [encPk s, .str "none"] M = .ok (.z, encPk s) M
abbrev S_turnedV (P : Prog) (f : Nat) : Prop := ∀ n (s : Pk) M, callN P (n + 4) f [encPk s, .str "V"] M = .ok (.z, encPk (pkV s)) M
abbrev S_turnedH (P : Prog) (f : Nat) : Prop := ∀ n (s : Pk) M, callN P (n + 4) f [encPk s, .str "H"] M = .ok (.z, encPk (pkH s)) M
abbrev S_turnedS (P : Prog) (f : Nat) : Prop := ∀ n (s : Pk) M, callN P (n + 4) f [encPk s, .str "spin"] M = .ok (.z, encPk (pkS s)) M
structure S_turned (P : Prog) (f : Nat) : Prop where
  t0 : S_turned0 P f
  tV : S_turnedV P f
  tH : S_turnedH P f
  tS : S_turnedS P f
theorem p_turned {P : Prog} {f a b c : Nat} (hP : P.fns[f]? = some ⟨2, 2, t_turned a b c⟩) (h1 : S_copied P a) (h2 : S_spun_packet P b) (h3 : S_packet_overV P c) (h4 : S_packet_overH P c) : S_turned P f := by
  constructor
  all_goals
    intro n s M
    rw [callN_eq hP rfl]
    simp! only [t_turned, h1, h2, h3, h4]
/- _law_over(stack, line): 0=stack 1=line 2=found 3=k 4=sheet 5=row 6=col 7=face 8=turn -/
def t__law_over_l1 : List Sm := [.asg (.t [(.v 4), (.v 5), (.v 6), (.v 7), (.v 8)]) (.ix (.var 0) (.bin .sub (.bin .sub (.blt .len [(.var 0)]) (.lit (.int 1))) (.var 3))),
  .ifs (.cmp .eq (.var 1) (.lit (.str "H"))) [.asg (.v 8) (.bin .sub (.lit (.int 1)) (.var 8))] [],
  .mut 2 [] .app (.a (.e (.tup [(.var 4), (.var 5), (.var 6), (.bin .sub (.lit (.int 1)) (.var 7)), (.var 8)]))),
  .kill [3, 4, 5, 6, 7, 8]]
def t__law_over : List Sm := [.own 2 (.dn (.lst [])),
  .for_ (.v 3) .rng1 [(.blt .len [(.var 0)])] (t__law_over_l1),
  .freeze 2,
  .ret (.var 2)]
theorem p__law_overV {P : Prog} {f : Nat} (hP : P.fns[f]? = some ⟨2, 9, t__law_over⟩) : ∀ n (s : Stk) M, s.length ≤ 16777216 → callN P (n + 1) f [encSt s, .str "V"] M = .ok (.z, encSt (stV s)) M := by
  intro n s M hs
  rw [callN_eq hP rfl]
  simp! only [t__law_over, encSt, List.length_map]
  rw [forL_app0N (fun a => [.fz (.lst (s.map Lay.enc)), .fz (.str "V"), .ow (.s .z) (.lst a), .un, .un, .un, .un, .un, .un]) (by omega) fun acc i hi ha => by
    simp! only [t__law_over_l1, List.length_map, x_map, Lay.enc]
    exact rfl]
  simp! only [stV, List.map_map, Function.comp_def, Lay.enc, Lay.ov]
  rw [rg_rev (fun l : Lay => D.tup [.int l.sh, .int l.row, .int l.col, .int (1 - l.fc), .int l.tn]) default s rfl]
theorem p__law_overH {P : Prog} {f : Nat} (hP : P.fns[f]? = some ⟨2, 9, t__law_over⟩) : ∀ n (s : Stk) M, s.length ≤ 16777216 → callN P (n + 1) f [encSt s, .str "H"] M = .ok (.z, encSt (stH s)) M := by
  intro n s M hs
  rw [callN_eq hP rfl]
  simp! only [t__law_over, encSt, List.length_map]
  rw [forL_app0N (fun a => [.fz (.lst (s.map Lay.enc)), .fz (.str "H"), .ow (.s .z) (.lst a), .un, .un, .un, .un, .un, .un]) (by omega) fun acc i hi ha => by
    simp! only [t__law_over_l1, List.length_map, x_map, Lay.enc]
    exact rfl]
  simp! only [stH, List.map_map, Function.comp_def, Lay.enc, Lay.lv]
  rw [rg_rev (fun l : Lay => D.tup [.int l.sh, .int l.row, .int l.col, .int (1 - l.fc), .int (1 - l.tn)]) default s rfl]

def Rect (p : Pk) (c : Nat) : Prop := ∀ r ∈ p, r.length = c
def bigPk (k : Nat) (p : Pk) : Prop := p.length ≤ k ∧ ∀ r ∈ p, r.length ≤ k ∧ ∀ s ∈ r, s.length ≤ k
abbrev S__law_overV (P : Prog) (f : Nat) : Prop := ∀ n (s : Stk) M, s.length ≤ 16777216 → callN P (n + 1) f [encSt s, .str "V"] M = .ok (.z, encSt (stV s)) M
abbrev S__law_overH (P : Prog) (f : Nat) : Prop := ∀ n (s : Stk) M, s.length ≤ 16777216 → callN P (n + 1) f [encSt s, .str "H"] M = .ok (.z, encSt (stH s)) M

theorem pl_lay {n : Nat} (l : Lay) (h : 2 ≤ n) : pl n l.enc := pl_le (n := 2) ⟨small_line (by simp), fun x hx => by
  simp only [List.mem_cons, List.not_mem_nil, or_false] at hx
  rcases hx with rfl | rfl | rfl | rfl | rfl <;> trivial⟩ h
theorem pl_fce {n : Nat} (l : Fce) (h : 2 ≤ n) : pl n l.enc := pl_le (n := 2) ⟨small_line (by simp), fun x hx => by
  simp only [List.mem_cons, List.not_mem_nil, or_false] at hx
  rcases hx with rfl | rfl | rfl | rfl <;> trivial⟩ h
theorem pl_int2 {n : Nat} (a b : Int) (h : 2 ≤ n) : pl n (.tup [.int a, .int b]) := pl_le (n := 2) ⟨small_line (by simp), fun x hx => by
  simp only [List.mem_cons, List.not_mem_nil, or_false] at hx
  rcases hx with rfl | rfl <;> trivial⟩ h
theorem pl_pk {n : Nat} {p : Pk} (h : bigPk 1000000 p) (hn : 5 ≤ n) : pl n (encPk p) :=
  pl_le (n := 5) (pl_lst (small_line h.1) fun r hr => pl_lst (small_line (h.2 r hr).1) fun s hs => pl_lst (small_line ((h.2 r hr).2 s hs)) fun l _ => pl_lay l (by omega)) hn
theorem flatP_big (s : Int) {r c k : Nat} (hr : r ≤ k) (hc : c ≤ k) (hk : 1 ≤ k) : bigPk k (flatP s r c) := by
  refine ⟨by simpa [flatP] using hr, fun x hx => ?_⟩
  simp only [flatP, List.mem_map, List.mem_range] at hx
  obtain ⟨i, hi, rfl⟩ := hx
  refine ⟨by simpa using hc, fun y hy => ?_⟩
  simp only [List.mem_map, List.mem_range] at hy
  obtain ⟨j, hj, rfl⟩ := hy
  simpa using hk
theorem getP_pk2 {p : Pk} {i j : Nat} {r : List Stk} {s : Stk} (h1 : p[i]? = some r) (h2 : r[j]? = some s) : getP (encPk p) [.int (i : Nat), .int (j : Nat)] = some (.lst (s.map Lay.enc)) := by
  unfold encPk
  rw [getP_nat (d := encRow r) (by simp [h1])]
  unfold encRow
  rw [getP_nat (d := encSt s) (by simp [h2])]
  rfl
theorem setP_pk2 {p : Pk} {i j : Nat} {r : List Stk} {s s' : Stk} (h1 : p[i]? = some r) (h2 : r[j]? = some s) : setP (encPk p) [.int (i : Nat), .int (j : Nat)] (.lst (s'.map Lay.enc)) = encPk (p.set i (r.set j s')) := by
  unfold encPk
  rw [setP_nat (d := encRow r) (by simp [h1])]
  unfold encRow
  rw [setP_nat (d := encSt s) (by simp [h2])]
  show D.lst ((p.map encRow).set i (.lst ((r.map encSt).set j (encSt s')))) = _
  rw [← List.map_set]
  show D.lst ((p.map encRow).set i (encRow (r.set j s'))) = _
  rw [← List.map_set]
  rfl
theorem getP_pk1 {p : Pk} {i : Nat} {r : List Stk} (h1 : p[i]? = some r) : getP (encPk p) [.int (i : Nat)] = some (.lst (r.map encSt)) := by
  unfold encPk
  rw [getP_nat (d := encRow r) (by simp [h1])]
  rfl
theorem flatP_get {s : Int} {r c i j : Nat} (hi : i < r) (hj : j < c) : (flatP s r c)[i]? = some ((List.range c).map fun (j : Nat) => [⟨s, i, j, 0, 0⟩]) ∧ ((List.range c).map fun (j : Nat) => ([⟨s, i, j, 0, 0⟩] : Stk))[j]? = some [⟨s, i, j, 0, 0⟩] := by
  constructor
  · simp [flatP, hi]
  · simp [hj]
end VL

/-! L2: marks, reading -/
namespace VL
open PySem
structure Mk where
  pg : Int
  hd : Int
  deriving DecidableEq, Inhabited
structure Cel where
  fr : Mk
  bk : Mk
  deriving DecidableEq, Inhabited
def Mk.enc (m : Mk) : D := .tup [.int m.pg, .int m.hd]
def Cel.enc (c : Cel) : D := .tup [c.fr.enc, c.bk.enc]
abbrev Mks := List (List Cel)
def encMr (r : List Cel) : D := .lst (r.map Cel.enc)
def encM (m : Mks) : D := .lst (m.map encMr)
def encS (s : List Mks) : D := .lst (s.map encM)
def Cel.sd (c : Cel) (s : Int) : Mk := if s = 0 then c.fr else c.bk
def getC (S : List Mks) (sh row col : Int) : Cel := ((S.getD sh.toNat default).getD row.toNat default).getD col.toNat default
structure InS (S : List Mks) (sh row col : Int) : Prop where
  s : 0 ≤ sh ∧ sh < S.length
  r : 0 ≤ row ∧ row < (S.getD sh.toNat default).length
  c : 0 ≤ col ∧ col < ((S.getD sh.toNat default).getD row.toNat default).length
theorem Cel.ix (c : Cel) {s : Int} (h : s = 0 ∨ s = 1) : ixD c.enc (.int s) = some (c.sd s).enc := by
  rcases h with rfl | rfl
  · rfl
  · rfl
theorem ix_cel {S : List Mks} {sh row col : Int} (h : InS S sh row col) : ∃ a b, ixD (encS S) (.int sh) = some a ∧ ixD a (.int row) = some b ∧ ixD b (.int col) = some (getC S sh row col).enc := by
  refine ⟨_, _, x_map h.s.1 h.s.2, x_map h.r.1 h.r.2, x_map h.c.1 h.c.2⟩
/- mark_at(sheets, face): 0=sheets 1=face 2=sheet 3=row 4=col 5=side -/
def t_mark_at : List Sm := [.asg (.t [(.v 2), (.v 3), (.v 4), (.v 5)]) (.var 1),
  .ret (.ix (.ix (.ix (.ix (.var 0) (.var 2)) (.var 3)) (.var 4)) (.var 5))]
abbrev S_mark_at (P : Prog) (f : Nat) : Prop := ∀ n S (x : Fce) M, InS S x.sh x.row x.col → (x.fc = 0 ∨ x.fc = 1) → callN P (n + 1) f [encS S, x.enc] M = .ok (Md.z, ((getC S x.sh x.row x.col).sd x.fc).enc) M
theorem p_mark_at {P : Prog} {f : Nat} (hP : P.fns[f]? = some ⟨2, 6, t_mark_at⟩) : S_mark_at P f := by
  intro n S x M h hf
  rw [callN_eq hP rfl]
  obtain ⟨a, b, h1, h2, h3⟩ := ix_cel h
  have h4 := Cel.ix (getC S x.sh x.row x.col) hf
  simp! only [t_mark_at, Fce.enc, h1, h2, h3, h4]
def chg (h t : Int) : Int := if t = 1 then 1 - h else h
/- changed(head, turn): 0=head 1=turn -/
def t_changed : List Sm := [.ifs (.cmp .eq (.var 1) (.lit (.int 1))) [.ret (.bin .sub (.lit (.int 1)) (.var 0))] [],
  .ret (.var 0)]
abbrev S_changed (P : Prog) (f : Nat) : Prop := ∀ n h t M, callN P (n + 1) f [.int h, .int t] M = .ok (Md.z, .int (chg h t)) M
theorem p_changed {P : Prog} {f : Nat} (hP : P.fns[f]? = some ⟨2, 2, t_changed⟩) : S_changed P f := by
  intro n h t M
  rw [callN_eq hP rfl]
  simp! only [t_changed, chg]
  split <;> rfl
/-- what the reader sees -/
def abv (S : List Mks) (l : Lay) : Mk := let m := (getC S l.sh l.row l.col).sd l.fc; ⟨m.pg, chg m.hd l.tn⟩
def blw (S : List Mks) (hd : Bool) (l : Lay) : Mk := let m := (getC S l.sh l.row l.col).sd (1 - l.fc); ⟨m.pg, if hd = true then 1 - chg m.hd l.tn else chg m.hd l.tn⟩
def rdg (S : List Mks) (hd : Bool) (s : Stk) : List Mk := s.flatMap fun l => [abv S l, blw S hd l]
structure LayIn (S : List Mks) (l : Lay) : Prop where
  i : InS S l.sh l.row l.col
  f : l.fc = 0 ∨ l.fc = 1
/- seen_above(layer, sheets): 0=layer 1=sheets 2=page 3=head -/
def t_seen_above (c_mark_at : Nat) (c_upper_face : Nat) (c_changed : Nat) : List Sm := [.asg (.t [(.v 2), (.v 3)]) (.call c_mark_at [(.var 1), (.call c_upper_face [(.var 0)])]),
  .ret (.tup [(.var 2), (.call c_changed [(.var 3), (.ix (.var 0) (.lit (.int 4)))])])]
abbrev S_seen_above (P : Prog) (f : Nat) : Prop := ∀ n S (l : Lay) M, LayIn S l → callN P (n + 2) f [l.enc, encS S] M = .ok (Md.z, (abv S l).enc) M
theorem p_seen_above {P : Prog} {f a b c : Nat} (hP : P.fns[f]? = some ⟨2, 4, t_seen_above a b c⟩) (h1 : S_mark_at P a) (h2 : S_upper_face P b) (h3 : S_changed P c) : S_seen_above P f := by
  intro n S l M h
  rw [callN_eq hP rfl]
  have u := h2 n l M
  have m := h1 n S l.up M h.i h.f
  simp only [Lay.enc] at u
  generalize l.up.enc = ue at u m
  simp! only [t_seen_above, Lay.enc, u, m, Mk.enc, h3, abv]
  rfl
/- seen_below(layer, sheets, spine): 0=layer 1=sheets 2=spine 3=page 4=head -/
def t_seen_below (c_mark_at : Nat) (c_lower_face : Nat) (c_changed : Nat) : List Sm := [.asg (.t [(.v 3), (.v 4)]) (.call c_mark_at [(.var 1), (.call c_lower_face [(.var 0)])]),
  .asg (.v 4) (.call c_changed [(.var 4), (.ix (.var 0) (.lit (.int 4)))]),
  .ifs (.cmp .eq (.var 2) (.lit (.str "head"))) [.asg (.v 4) (.bin .sub (.lit (.int 1)) (.var 4))] [],
  .ret (.tup [(.var 3), (.var 4)])]
abbrev S_seen_below (P : Prog) (f : Nat) : Prop := ∀ n S (l : Lay) (hd : Bool) (sp : Str) M, decide (sp = "head") = hd → LayIn S l → callN P (n + 2) f [l.enc, encS S, .str sp] M = .ok (Md.z, (blw S hd l).enc) M
theorem p_seen_below {P : Prog} {f a b c : Nat} (hP : P.fns[f]? = some ⟨3, 5, t_seen_below a b c⟩) (h1 : S_mark_at P a) (h2 : S_lower_face P b) (h3 : S_changed P c) : S_seen_below P f := by
  intro n S l hd sp M hs h
  rw [callN_eq hP rfl]
  have u := h2 n l M
  have m := h1 n S l.dn M h.i (by have := h.f; simp only [Lay.dn]; omega)
  simp only [Lay.enc] at u
  generalize l.dn.enc = ue at u m
  subst hs
  simp! only [t_seen_below, Lay.enc, u, m, Mk.enc, h3, blw]
  simp only [Lay.dn]
/- reading(stack, sheets, spine): 0=stack 1=sheets 2=spine 3=found 4=layer -/
def t_reading_l1 (c_seen_above : Nat) (c_seen_below : Nat) : List Sm := [.mut 3 [] .app (.a (.e (.call c_seen_above [(.var 4), (.var 1)]))),
  .mut 3 [] .app (.a (.e (.call c_seen_below [(.var 4), (.var 1), (.var 2)]))),
  .kill [4]]
def t_reading (c_seen_above : Nat) (c_seen_below : Nat) : List Sm := [.own 3 (.dn (.lst [])),
  .for_ (.v 4) .seq [(.var 0)] (t_reading_l1 c_seen_above c_seen_below),
  .freeze 3,
  .ret (.var 3)]
abbrev S_reading (P : Prog) (f : Nat) : Prop := ∀ n S (s : Stk) (hd : Bool) (sp : Str) M, decide (sp = "head") = hd → (∀ l ∈ s, LayIn S l) → s.length ≤ 1000000 → callN P (n + 3) f [encSt s, encS S, .str sp] M = .ok (Md.z, .lst ((rdg S hd s).map Mk.enc)) M
theorem rdg_enc (S : List Mks) (hd : Bool) (s : Stk) : s.flatMap (fun l => [(abv S l).enc, (blw S hd l).enc]) = (rdg S hd s).map Mk.enc := by
  unfold rdg; rw [List.map_flatMap]; rfl
theorem p_reading {P : Prog} {f a b : Nat} (hP : P.fns[f]? = some ⟨3, 5, t_reading a b⟩) (h1 : S_seen_above P a) (h2 : S_seen_below P b) : S_reading P f := by
  intro n S s hd sp M hs h hl
  rw [callN_eq hP rfl]
  simp! only [t_reading, encSt]
  rw [forL_cat 2 (fun acc => [.fz (.lst (s.map Lay.enc)), .fz (encS S), .fz (.str sp), .ow (.s .z) (.lst acc), .un]) (g := fun l => [(abv S l).enc, (blw S hd l).enc]) (acc := []) (fun _ => rfl) (by simp; omega) fun acc l hm ha => by
    have u1 := h1 n S l M (h l hm)
    have u2 := h2 n S l hd sp M hs (h l hm)
    have k1 : (abv S l).enc.isLD = false := rfl
    have k2 : (blw S hd l).enc.isLD = false := rfl
    simp! only [t_reading_l1, u1, u2, List.append_assoc]]
  simp! only [rdg_enc]
/- _law_any_marks(cell, rows, cols): 0=cell 1=rows 2=cols 3=draws 4=found 5=r 6=line 7=c 8=k -/
def t__law_any_marks_l1 (c__law_numbers : Nat) : List Sm := [.asg (.v 8) (.bin .mul (.lit (.int 4)) (.bin .add (.bin .mul (.var 2) (.var 5)) (.var 7))),
  .mut 6 [] .app (.a (.e (.tup [(.tup [(.bin .add (.lit (.int 1)) (.bin .mod (.ix (.var 3) (.var 8)) (.lit (.int 9999)))), (.bin .mod (.ix (.var 3) (.bin .add (.var 8) (.lit (.int 1)))) (.lit (.int 2)))]), (.tup [(.bin .add (.lit (.int 1)) (.bin .mod (.ix (.var 3) (.bin .add (.var 8) (.lit (.int 2)))) (.lit (.int 9999)))), (.bin .mod (.ix (.var 3) (.bin .add (.var 8) (.lit (.int 3)))) (.lit (.int 2)))])]))),
  .kill [7, 8]]
def t__law_any_marks_l2 (c__law_numbers : Nat) : List Sm := [.own 6 (.dn (.lst [])),
  .for_ (.v 7) .rng1 [(.var 2)] (t__law_any_marks_l1 c__law_numbers),
  .freeze 6,
  .mut 4 [] .app (.a (.e (.var 6))),
  .kill [5, 6, 7, 8]]
def t__law_any_marks (c__law_numbers : Nat) : List Sm := [.asg (.v 3) (.call c__law_numbers [(.var 0), (.bin .mul (.bin .mul (.lit (.int 4)) (.var 1)) (.var 2)), (.lit (.int 20160))]),
  .own 4 (.dn (.lst [])),
  .for_ (.v 5) .rng1 [(.var 1)] (t__law_any_marks_l2 c__law_numbers),
  .freeze 4,
  .ret (.var 4)]
def okMk (m : Mk) : Prop := 1 ≤ m.pg ∧ m.pg ≤ 9999 ∧ (m.hd = 0 ∨ m.hd = 1)
def okCel (c : Cel) : Prop := okMk c.fr ∧ okMk c.bk
structure OkM (m : Mks) (r c : Nat) : Prop where
  r : m.length = r
  c : ∀ x ∈ m, x.length = c
  k : ∀ x ∈ m, ∀ y ∈ x, okCel y
abbrev S__law_any_marks (P : Prog) (f : Nat) : Prop := ∀ n cell (r c : Int) M, 0 ≤ r ∧ r ≤ 8 → 0 ≤ c ∧ c ≤ 8 → ∃ m, OkM m r.toNat c.toNat ∧ callN P (n + 2) f [.int cell, .int r, .int c] M = .ok (Md.z, encM m) M
def celOf (l : List Int) (c i j : Nat) : Cel :=
  let k := (4 * ((c : Int) * i + j))
  ⟨⟨1 + l.getD k.toNat default % 9999, l.getD (k + 1).toNat default % 2⟩, ⟨1 + l.getD (k + 2).toNat default % 9999, l.getD (k + 3).toNat default % 2⟩⟩
theorem p__law_any_marks {P : Prog} {f a : Nat} (hP : P.fns[f]? = some ⟨3, 9, t__law_any_marks a⟩) (h1 : S__law_numbers P a) : S__law_any_marks P f := by
  intro n cell r c M hr hc
  obtain ⟨r, rfl⟩ := Int.eq_ofNat_of_zero_le hr.1
  obtain ⟨c, rfl⟩ := Int.eq_ofNat_of_zero_le hc.1
  have rc : 4 * r * c ≤ 256 := by have : 4 * r * c ≤ 4 * 8 * 8 := Nat.mul_le_mul (by omega) (by omega); omega
  have e := h1 n cell ((4 * r * c : Nat) : Int) 20160 M (by omega) (by omega) (by decide) (by decide)
  have hl := nums_length cell (4 * r * c) 20160
  have hd := nums_drw cell (4 * r * c) (limit := 20160) (by decide)
  rw [Int.toNat_natCast] at e
  generalize nums cell (4 * r * c) 20160 = l at e hl hd
  have ee : (4 : Int) * (r : Nat) * (c : Nat) = ((4 * r * c : Nat) : Int) := by push_cast; rfl
  refine ⟨(List.range r).map fun i => (List.range c).map fun j => celOf l c i j, ⟨by simp, fun x hx => ?_, fun x hx y hy => ?_⟩, ?_⟩
  · simp only [List.mem_map] at hx
    obtain ⟨i, _, rfl⟩ := hx
    simp
  · simp only [List.mem_map, List.mem_range] at hx
    obtain ⟨i, hi, rfl⟩ := hx
    simp only [List.mem_map, List.mem_range] at hy
    obtain ⟨j, hj, rfl⟩ := hy
    simp only [okCel, okMk, celOf]
    refine ⟨⟨?_, ?_, ?_⟩, ?_, ?_, ?_⟩ <;> omega
  · rw [callN_eq hP rfl]
    simp only [iL] at e
    have b1 : binD .mul (.int 4) (.int (r : Nat)) = some (.int (4 * (r : Nat))) := b_mul (.inl (by decide))
    have b2 : binD .mul (.int (4 * (r : Nat))) (.int (c : Nat)) = some (.int (4 * (r : Nat) * (c : Nat))) := b_mul (.inl (by omega))
    simp! only [t__law_any_marks, b1, b2, ee, e]
    rw [forL_app0N (fun a => [.fz (.int cell), .fz (.int (r : Nat)), .fz (.int (c : Nat)), .fz (.lst (l.map .int)), .ow (.s .z) (.lst a), .un, .un, .un, .un]) (by omega) fun acc i hi ha => by
      simp! only [t__law_any_marks_l2]
      rw [forL_app0N (fun a => [.fz (.int cell), .fz (.int (r : Nat)), .fz (.int (c : Nat)), .fz (.lst (l.map .int)), .ow (.s .z) (.lst acc), .fz (.int (i : Nat)), .ow (.s .z) (.lst a), .un, .un]) (by omega) fun acc2 j hj ha2 => by
        have kk : (c : Int) * (i : Nat) + (j : Nat) < (r : Int) * (c : Nat) := by
          have h1 : c * i + j < c * (i + 1) := by rw [Nat.mul_add]; omega
          have h2 : c * (i + 1) ≤ c * r := Nat.mul_le_mul_left _ (by omega)
          have h3 : ((c * i + j : Nat) : Int) < ((r * c : Nat) : Int) := by rw [Nat.mul_comm r c]; omega
          push_cast at h3; exact h3
        have k0 : (0 : Int) ≤ (c : Int) * (i : Nat) := Int.mul_nonneg (by omega) (by omega)
        have lk : 4 * ((c : Int) * (i : Nat) + (j : Nat)) + 3 < (l.length : Int) := by rw [hl]; push_cast; have : (4 : Int) * r * c = 4 * (r * c) := Int.mul_assoc _ _ _; omega
        have b3 : binD .mul (.int (c : Nat)) (.int (i : Nat)) = some (.int ((c : Nat) * (i : Nat))) := b_mul (.inl (by omega))
        have b4 : binD .mul (.int 4) (.int ((c : Int) * (i : Nat) + (j : Nat))) = some (.int (4 * ((c : Int) * (i : Nat) + (j : Nat)))) := b_mul (.inl (by decide))
        simp! only [t__law_any_marks_l1, b3, b4]
        exact rfl]
      simp! only []
      exact rfl]
    simp! only [encM, encMr, Cel.enc, Mk.enc, celOf, List.map_map, Function.comp_def]
end VL

/-! L3: drawn packets, their turnings place by place -/
namespace VL
open PySem
structure OkL (l : Lay) : Prop where
  f : l.fc = 0 ∨ l.fc = 1
  t : l.tn = 0 ∨ l.tn = 1
structure OkPk (p : Pk) (r c : Nat) : Prop where
  hr : p.length = r
  hc : Rect p c
  r1 : 1 ≤ r ∧ r ≤ 8
  c1 : 1 ≤ c ∧ c ≤ 8
  s : ∀ x ∈ p, ∀ s ∈ x, 1 ≤ s.length ∧ s.length ≤ 4
  l : ∀ x ∈ p, ∀ s ∈ x, ∀ l ∈ s, OkL l
theorem OkPk.big {p : Pk} {r c : Nat} (h : OkPk p r c) : bigPk 1000000 p := ⟨by have := h.hr; have := h.r1; omega, fun x hx => ⟨by have := h.hc x hx; have := h.c1; omega, fun s hs => by have := h.s x hx s hs; omega⟩⟩
theorem nb_lay (l : Lay) : nb 2 l.enc := fun x hx => by
  simp only [List.mem_cons, List.not_mem_nil, or_false] at hx
  rcases hx with rfl | rfl | rfl | rfl | rfl <;> trivial
theorem nb_st (s : Stk) : nb 3 (encSt s) := nb_lst fun l _ => nb_lay l
theorem nb_pk (p : Pk) : nb 5 (encPk p) := nb_lst fun r _ => nb_lst fun s _ => nb_st s
theorem nums_3 (cell limit : Int) (h : 0 < limit) : ∃ a b c, nums cell (Int.toNat 3) limit = [a, b, c] ∧ (0 ≤ a ∧ a < limit) ∧ (0 ≤ b ∧ b < limit) ∧ (0 ≤ c ∧ c < limit) := by
  have hl := nums_length cell 3 limit
  have hd := nums_drw cell 3 h
  have t : Int.toNat 3 = 3 := rfl
  rw [t]
  generalize nums cell 3 limit = l at hl hd
  match l, hl with
  | [a, b, c], _ => exact ⟨a, b, c, rfl, hd a (by simp), hd b (by simp), hd c (by simp)⟩
/- _law_packet(script, at): 0=script 1=at 2=shape 3=rows 4=cols 5=heights 6=parts 7=sheets 8=found 9=many 10=r 11=line 12=c 13=stack 14=k 15=bits -/
def t__law_packet_l1 (c__law_numbers : Nat) (c__law_cell : Nat) : List Sm := [.asg (.v 15) (.ix (.var 6) (.bin .mod (.blt .int [(.bin .add (.bin .add (.bin .mul (.lit (.int 8)) (.var 10)) (.var 12)) (.bin .mul (.lit (.int 7)) (.var 14)))]) (.lit (.int 64)))),
  .mut 13 [] .app (.a (.e (.tup [(.bin .add (.ix (.var 7) (.bin .mod (.blt .int [(.var 9)]) (.lit (.int 64)))) (.bin .mul (.lit (.int 50)) (.bin .fdiv (.blt .int [(.var 9)]) (.lit (.int 64))))), (.bin .mod (.blt .int [(.var 9)]) (.lit (.int 8))), (.bin .mod (.bin .fdiv (.blt .int [(.var 9)]) (.lit (.int 8))) (.lit (.int 8))), (.bin .mod (.var 15) (.lit (.int 2))), (.bin .fdiv (.var 15) (.lit (.int 2)))]))),
  .asg (.v 9) (.bin .add (.var 9) (.lit (.int 1))),
  .kill [14, 15]]
def t__law_packet_l2 (c__law_numbers : Nat) (c__law_cell : Nat) : List Sm := [.own 13 (.dn (.lst [])),
  .for_ (.v 14) .rng1 [(.bin .add (.lit (.int 1)) (.ix (.var 5) (.bin .add (.bin .mul (.lit (.int 8)) (.var 10)) (.var 12))))] (t__law_packet_l1 c__law_numbers c__law_cell),
  .freeze 13,
  .mut 11 [] .app (.a (.e (.var 13))),
  .kill [12, 13, 14, 15]]
def t__law_packet_l3 (c__law_numbers : Nat) (c__law_cell : Nat) : List Sm := [.own 11 (.dn (.lst [])),
  .for_ (.v 12) .rng1 [(.var 4)] (t__law_packet_l2 c__law_numbers c__law_cell),
  .freeze 11,
  .mut 8 [] .app (.a (.e (.var 11))),
  .kill [10, 11, 12, 13, 14, 15]]
def t__law_packet (c__law_numbers : Nat) (c__law_cell : Nat) : List Sm := [.asg (.v 2) (.call c__law_numbers [(.call c__law_cell [(.var 0), (.var 1)]), (.lit (.int 3)), (.lit (.int 64))]),
  .asg (.v 3) (.bin .add (.lit (.int 1)) (.bin .mod (.ix (.var 2) (.lit (.int 0))) (.lit (.int 8)))),
  .asg (.v 4) (.bin .add (.lit (.int 1)) (.bin .mod (.ix (.var 2) (.lit (.int 1))) (.lit (.int 8)))),
  .ifs (.cmp .gt (.bin .mod (.ix (.var 2) (.lit (.int 2))) (.lit (.int 3))) (.lit (.int 0))) [.asg (.v 3) (.bin .add (.lit (.int 1)) (.bin .mod (.var 3) (.lit (.int 4)))), .asg (.v 4) (.bin .add (.lit (.int 1)) (.bin .mod (.var 4) (.lit (.int 4))))] [],
  .asg (.v 5) (.call c__law_numbers [(.call c__law_cell [(.var 0), (.bin .add (.var 1) (.lit (.int 1)))]), (.lit (.int 64)), (.lit (.int 4))]),
  .asg (.v 6) (.call c__law_numbers [(.call c__law_cell [(.var 0), (.bin .add (.var 1) (.lit (.int 2)))]), (.lit (.int 64)), (.lit (.int 4))]),
  .asg (.v 7) (.call c__law_numbers [(.call c__law_cell [(.var 0), (.bin .add (.var 1) (.lit (.int 3)))]), (.lit (.int 64)), (.lit (.int 50))]),
  .own 8 (.dn (.lst [])),
  .asg (.v 9) (.lit (.int 0)),
  .for_ (.v 10) .rng1 [(.var 3)] (t__law_packet_l3 c__law_numbers c__law_cell),
  .freeze 8,
  .ret (.var 8)]
section
variable {P : Prog} {a b : Nat} {n : Nat} {M : Mem} {x0 x1 x2 : SV} {r c : Nat} {w1 w2 w3 : List Int}
/-- the state of the drawing -/
abbrev pst (x0 x1 x2 : SV) (r c : Nat) (w1 w2 w3 : List Int) (p : Pk) (m : Int) (y10 y11 y12 y13 : SV) : Sl :=
  [x0, x1, x2, .fz (.int (r : Nat)), .fz (.int (c : Nat)), .fz (iL w1), .fz (iL w2), .fz (iL w3), .ow (.s .z) (encPk p), .fz (.int m), y10, y11, y12, y13, .un, .un]
theorem pk_l1 (l2 : w2.length = 64) (d2 : Drw 4 w2) (l3 : w3.length = 64) (d3 : Drw 50 w3) {p : Pk} {i j k : Nat} {m : Int} {y : SV} {s : Stk} (hi : i < 8) (hj : j < 8) (hk : k < 4) (hs : s.length = k) (hm : 0 ≤ m) :
    ∃ l, OkL l ∧ forB (cfgN P n) (.v 14) (t__law_packet_l1 a b) (.int (k : Nat)) (pst x0 x1 x2 r c w1 w2 w3 p m (.fz (.int (i : Nat))) y (.fz (.int (j : Nat))) (.ow (.s .z) (encSt s))) M =
      .nx (pst x0 x1 x2 r c w1 w2 w3 p (m + 1) (.fz (.int (i : Nat))) y (.fz (.int (j : Nat))) (.ow (.s .z) (encSt (s ++ [l])))) M := by
  have q := d2.get (i := ((8 * (i : Int) + (j : Nat) + 7 * (k : Nat)) % 64).toNat) (by omega)
  generalize eq : w2.getD ((8 * (i : Int) + (j : Nat) + 7 * (k : Nat)) % 64).toNat default = bits at q
  generalize es : w3.getD (m % 64).toNat default = sh
  refine ⟨⟨sh + 50 * (m / 64), m % 8, m / 8 % 8, bits % 2, bits / 2⟩, ⟨by show bits % 2 = 0 ∨ bits % 2 = 1; omega, by show bits / 2 = 0 ∨ bits / 2 = 1; omega⟩, ?_⟩
  simp! only [forB, t__law_packet_l1, eq, es, encSt, Lay.enc]
theorem pk_l2 (l1 : w1.length = 64) (d1 : Drw 4 w1) (l2 : w2.length = 64) (d2 : Drw 4 w2) (l3 : w3.length = 64) (d3 : Drw 50 w3) {p : Pk} {i j : Nat} {m : Int} {row : List Stk} (hi : i < 8) (hj : j < 8) (hr : row.length = j) (hm : 0 ≤ m) :
    ∃ s m', (1 ≤ s.length ∧ s.length ≤ 4) ∧ (∀ l ∈ s, OkL l) ∧ 0 ≤ m' ∧ forB (cfgN P n) (.v 12) (t__law_packet_l2 a b) (.int (j : Nat)) (pst x0 x1 x2 r c w1 w2 w3 p m (.fz (.int (i : Nat))) (.ow (.s .z) (encRow row)) .un .un) M =
      .nx (pst x0 x1 x2 r c w1 w2 w3 p m' (.fz (.int (i : Nat))) (.ow (.s .z) (encRow (row ++ [s]))) .un .un) M := by
  have q := d1.get (i := (8 * (i : Int) + (j : Nat)).toNat) (by omega)
  generalize eq : w1.getD (8 * (i : Int) + (j : Nat)).toNat default = h at q
  obtain ⟨k, ek, k1, k4⟩ : ∃ k : Nat, 1 + h = k ∧ 1 ≤ k ∧ k ≤ 4 := ⟨(1 + h).toNat, by omega, by omega, by omega⟩
  obtain ⟨ρ, e, s, m', rfl, hs, hl, hm'⟩ := forL_relN (body := forB (cfgN P n) (.v 14) (t__law_packet_l1 a b)) (M := M) (n := k) (ρ := pst x0 x1 x2 r c w1 w2 w3 p m (.fz (.int (i : Nat))) (.ow (.s .z) (encRow row)) (.fz (.int (j : Nat))) (.ow (.s .z) (.lst [])))
    (fun k ρ => ∃ (s : Stk) (m' : Int), ρ = pst x0 x1 x2 r c w1 w2 w3 p m' (.fz (.int (i : Nat))) (.ow (.s .z) (encRow row)) (.fz (.int (j : Nat))) (.ow (.s .z) (encSt s)) ∧ s.length = k ∧ (∀ l ∈ s, OkL l) ∧ 0 ≤ m') ⟨[], m, rfl, rfl, fun _ h => (by cases h), hm⟩ fun k' ρ hk ⟨s, m', e, hs, hl, hm'⟩ => by
    subst e
    obtain ⟨l, ol, e2⟩ := pk_l1 (P := P) (a := a) (b := b) (n := n) (M := M) (x0 := x0) (x1 := x1) (x2 := x2) (r := r) (c := c) (w1 := w1) l2 d2 l3 d3 (p := p) (i := i) (j := j) (k := k') (m := m') (y := .ow (.s .z) (encRow row)) (s := s) hi hj (by omega) hs hm'
    exact ⟨_, e2, s ++ [l], m' + 1, rfl, by simp [hs], fun x hx => by
      rcases List.mem_append.mp hx with z | z
      · exact hl x z
      · rw [List.mem_singleton.mp z]; exact ol, by omega⟩
  refine ⟨s, m', by omega, hl, hm', ?_⟩
  simp only [pst, iL, encRow] at e
  simp! only [forB, t__law_packet_l2, eq, ek, e, encRow, pst]
theorem pk_l3 (l1 : w1.length = 64) (d1 : Drw 4 w1) (l2 : w2.length = 64) (d2 : Drw 4 w2) (l3 : w3.length = 64) (d3 : Drw 50 w3) {p : Pk} {i : Nat} {m : Int} (hi : i < 8) (hc : c ≤ 8) (hp : p.length = i) (hm : 0 ≤ m) :
    ∃ row m', row.length = c ∧ (∀ s ∈ row, 1 ≤ s.length ∧ s.length ≤ 4) ∧ (∀ s ∈ row, ∀ l ∈ s, OkL l) ∧ 0 ≤ m' ∧ forB (cfgN P n) (.v 10) (t__law_packet_l3 a b) (.int (i : Nat)) (pst x0 x1 x2 r c w1 w2 w3 p m .un .un .un .un) M =
      .nx (pst x0 x1 x2 r c w1 w2 w3 (p ++ [row]) m' .un .un .un .un) M := by
  obtain ⟨ρ, e, row, m', rfl, hs, h1, h2, hm'⟩ := forL_relN (body := forB (cfgN P n) (.v 12) (t__law_packet_l2 a b)) (M := M) (n := c) (ρ := pst x0 x1 x2 r c w1 w2 w3 p m (.fz (.int (i : Nat))) (.ow (.s .z) (.lst [])) .un .un)
    (fun k ρ => ∃ (row : List Stk) (m' : Int), ρ = pst x0 x1 x2 r c w1 w2 w3 p m' (.fz (.int (i : Nat))) (.ow (.s .z) (encRow row)) .un .un ∧ row.length = k ∧ (∀ s ∈ row, 1 ≤ s.length ∧ s.length ≤ 4) ∧ (∀ s ∈ row, ∀ l ∈ s, OkL l) ∧ 0 ≤ m') ⟨[], m, rfl, rfl, fun _ h => (by cases h), fun _ h => (by cases h), hm⟩ fun k' ρ hk ⟨row, m', e, hs, h1, h2, hm'⟩ => by
    subst e
    obtain ⟨s, m2, s1, s2, hm2, e2⟩ := pk_l2 (P := P) (a := a) (b := b) (n := n) (M := M) (x0 := x0) (x1 := x1) (x2 := x2) (r := r) (c := c) l1 d1 l2 d2 l3 d3 (p := p) (i := i) (j := k') (m := m') (row := row) hi (by omega) hs hm'
    exact ⟨_, e2, row ++ [s], m2, rfl, by simp [hs], fun x hx => by
      rcases List.mem_append.mp hx with z | z
      · exact h1 x z
      · rw [List.mem_singleton.mp z]; exact s1, fun x hx => by
      rcases List.mem_append.mp hx with z | z
      · exact h2 x z
      · rw [List.mem_singleton.mp z]; exact s2, hm2⟩
  refine ⟨row, m', hs, h1, h2, hm', ?_⟩
  simp only [pst, iL, encPk] at e
  simp! only [forB, t__law_packet_l3, e, encPk, pst]
end
abbrev S__law_packet (P : Prog) (f : Nat) : Prop := ∀ n ns (a : Int) M, 0 ≤ a → ∃ p r c, OkPk p r c ∧ callN P (n + 2) f [iL ns, .int a] M = .ok (Md.z, encPk p) M
theorem p__law_packet {P : Prog} {f a b : Nat} (hP : P.fns[f]? = some ⟨2, 16, t__law_packet a b⟩) (hn : S__law_numbers P a) (hc : S__law_cell P b) : S__law_packet P f := by
  intro n ns at_ M h0
  have c0 := hc n ns at_ M h0
  have c1 := hc n ns (at_ + 1) M (by omega)
  have c2 := hc n ns (at_ + 2) M (by omega)
  have c3 := hc n ns (at_ + 3) M (by omega)
  generalize cellv ns at_.toNat = v0 at c0
  generalize cellv ns (at_ + 1).toNat = v1 at c1
  generalize cellv ns (at_ + 2).toNat = v2 at c2
  generalize cellv ns (at_ + 3).toNat = v3 at c3
  have n0 := hn n v0 3 64 M (by decide) (by decide) (by decide) (by decide)
  have n1 := hn n v1 64 4 M (by decide) (by decide) (by decide) (by decide)
  have n2 := hn n v2 64 4 M (by decide) (by decide) (by decide) (by decide)
  have n3 := hn n v3 64 50 M (by decide) (by decide) (by decide) (by decide)
  obtain ⟨x, y, z, e0, hx, hy, hz⟩ := nums_3 v0 64 (by decide)
  rw [e0] at n0
  have t64 : Int.toNat 64 = 64 := rfl
  rw [t64] at n1 n2 n3
  have l1 := nums_length v1 64 4
  have d1 := nums_drw v1 64 (limit := 4) (by decide)
  have l2 := nums_length v2 64 4
  have d2 := nums_drw v2 64 (limit := 4) (by decide)
  have l3 := nums_length v3 64 50
  have d3 := nums_drw v3 64 (limit := 50) (by decide)
  generalize nums v1 64 4 = w1 at n1 l1 d1
  generalize nums v2 64 4 = w2 at n2 l2 d2
  generalize nums v3 64 50 = w3 at n3 l3 d3
  obtain ⟨r, er, r1, r8⟩ : ∃ r : Nat, (if 0 < z % 3 then 1 + (1 + x % 8) % 4 else 1 + x % 8) = (r : Int) ∧ 1 ≤ r ∧ r ≤ 8 := ⟨(if 0 < z % 3 then 1 + (1 + x % 8) % 4 else 1 + x % 8).toNat, by split <;> omega, by split <;> omega, by split <;> omega⟩
  obtain ⟨c, ec, k1, k8⟩ : ∃ c : Nat, (if 0 < z % 3 then 1 + (1 + y % 8) % 4 else 1 + y % 8) = (c : Int) ∧ 1 ≤ c ∧ c ≤ 8 := ⟨(if 0 < z % 3 then 1 + (1 + y % 8) % 4 else 1 + y % 8).toNat, by split <;> omega, by split <;> omega, by split <;> omega⟩
  obtain ⟨ρ, e, p, m', rfl, hs, h0, h1, h2, hm'⟩ := forL_relN (body := forB (cfgN P (n + 1)) (.v 10) (t__law_packet_l3 a b)) (M := M) (n := r) (ρ := pst (.fz (iL ns)) (.fz (.int at_)) (.fz (.lst [.int x, .int y, .int z])) r c w1 w2 w3 [] 0 .un .un .un .un)
    (fun k ρ => ∃ (p : Pk) (m' : Int), ρ = pst (.fz (iL ns)) (.fz (.int at_)) (.fz (.lst [.int x, .int y, .int z])) r c w1 w2 w3 p m' .un .un .un .un ∧ p.length = k ∧ Rect p c ∧ (∀ row ∈ p, ∀ s ∈ row, 1 ≤ s.length ∧ s.length ≤ 4) ∧ (∀ row ∈ p, ∀ s ∈ row, ∀ l ∈ s, OkL l) ∧ 0 ≤ m') ⟨[], 0, rfl, rfl, fun _ h => (by cases h), fun _ h => (by cases h), fun _ h => (by cases h), by decide⟩ fun k' ρ hk ⟨p, m', e, hs, h0, h1, h2, hm'⟩ => by
    subst e
    obtain ⟨row, m2, s0, s1, s2, hm2, e2⟩ := pk_l3 (P := P) (a := a) (b := b) (n := n + 1) (M := M) (x0 := .fz (iL ns)) (x1 := .fz (.int at_)) (x2 := .fz (.lst [.int x, .int y, .int z])) (r := r) (c := c) l1 d1 l2 d2 l3 d3 (p := p) (i := k') (m := m') (by omega) k8 hs hm'
    exact ⟨_, e2, p ++ [row], m2, rfl, by simp [hs], fun x hx => by
      rcases List.mem_append.mp hx with z | z
      · exact h0 x z
      · rw [List.mem_singleton.mp z]; exact s0, fun x hx => by
      rcases List.mem_append.mp hx with z | z
      · exact h1 x z
      · rw [List.mem_singleton.mp z]; exact s1, fun x hx => by
      rcases List.mem_append.mp hx with z | z
      · exact h2 x z
      · rw [List.mem_singleton.mp z]; exact s2, hm2⟩
  refine ⟨p, r, c, ⟨hs, h0, ⟨r1, r8⟩, ⟨k1, k8⟩, h1, h2⟩, ?_⟩
  rw [callN_eq hP rfl]
  simp only [pst, iL, encPk, List.map_nil] at e
  simp only [iL, List.map_cons, List.map_nil] at n0 n1 n2 n3 c0 c1 c2 c3
  simp! only [t__law_packet, c0, c1, c2, c3, n0, n1, n2, n3, er, ec, e, encPk]

/- _law_turned(packet, turning): 0=packet 1=turning 2=rows 3=cols 4=found 5=r 6=line 7=c -/
def t__law_turned_l1 (c__law_over : Nat) : List Sm := [.ifs (.cmp .eq (.var 1) (.lit (.str "V"))) [.mut 6 [] .app (.a (.e (.call c__law_over [(.ix (.ix (.var 0) (.var 5)) (.bin .sub (.bin .sub (.var 3) (.lit (.int 1))) (.var 7))), (.lit (.str "V"))])))] [.ifs (.cmp .eq (.var 1) (.lit (.str "H"))) [.mut 6 [] .app (.a (.e (.call c__law_over [(.ix (.ix (.var 0) (.bin .sub (.bin .sub (.var 2) (.lit (.int 1))) (.var 5))) (.var 7)), (.lit (.str "H"))])))] [.ifs (.cmp .eq (.var 1) (.lit (.str "spin"))) [.mut 6 [] .app (.a (.e (.call c__law_over [(.call c__law_over [(.ix (.ix (.var 0) (.bin .sub (.bin .sub (.var 2) (.lit (.int 1))) (.var 5))) (.bin .sub (.bin .sub (.var 3) (.lit (.int 1))) (.var 7))), (.lit (.str "V"))]), (.lit (.str "H"))])))] [.mut 6 [] .app (.a (.e (.blt .list [(.ix (.ix (.var 0) (.var 5)) (.var 7))])))]]],
  .kill [7]]
def t__law_turned_l2 (c__law_over : Nat) : List Sm := [.own 6 (.dn (.lst [])),
  .for_ (.v 7) .rng1 [(.var 3)] (t__law_turned_l1 c__law_over),
  .freeze 6,
  .mut 4 [] .app (.a (.e (.var 6))),
  .kill [5, 6, 7]]
def t__law_turned (c__law_over : Nat) : List Sm := [.asg (.v 2) (.blt .len [(.var 0)]),
  .asg (.v 3) (.blt .len [(.ix (.var 0) (.lit (.int 0)))]),
  .own 4 (.dn (.lst [])),
  .for_ (.v 5) .rng1 [(.var 2)] (t__law_turned_l2 c__law_over),
  .freeze 4,
  .ret (.var 4)]
theorem ix_row {p : Pk} {i : Int} (h0 : 0 ≤ i) (h1 : i < p.length) : ixD (encPk p) (.int i) = some (encRow (p.getD i.toNat default)) := x_map h0 h1
theorem ix_stk {r : List Stk} {i : Int} (h0 : 0 ≤ i) (h1 : i < r.length) : ixD (encRow r) (.int i) = some (encSt (r.getD i.toNat default)) := x_map h0 h1
theorem len_pk {p : Pk} : bltD .len [encPk p] = some (.int p.length) := by unfold encPk; rw [f_len, List.length_map]
theorem len_row {p : List Stk} : bltD .len [encRow p] = some (.int p.length) := by unfold encRow; rw [f_len, List.length_map]
theorem OkPk.row {p : Pk} {r c : Nat} (h : OkPk p r c) {i : Nat} (hi : i < r) : (p.getD i default).length = c := h.hc _ (mem_getD (by have := h.hr; omega))
theorem OkPk.st4 {p : Pk} {r c : Nat} (h : OkPk p r c) {i j : Nat} (hi : i < r) (hj : j < c) : ((p.getD i default).getD j default).length ≤ 4 := (h.s _ (mem_getD (by have := h.hr; omega)) _ (mem_getD (by rw [h.row hi]; exact hj))).2
/-- the four turnings, place by place -/
def tnAt (t : Nat) (p : Pk) (r c : Nat) (i j : Nat) : Stk := match t with
  | 0 => (p.getD i default).getD j default
  | 1 => stV ((p.getD i default).getD ((c : Int) - 1 - (j : Nat)).toNat default)
  | 2 => stH ((p.getD ((r : Int) - 1 - (i : Nat)).toNat default).getD j default)
  | _ => stH (stV ((p.getD ((r : Int) - 1 - (i : Nat)).toNat default).getD ((c : Int) - 1 - (j : Nat)).toNat default))
def tnW (t : Nat) : Str := match t with | 0 => "none" | 1 => "V" | 2 => "H" | _ => "spin"
def tnP (t : Nat) (p : Pk) : Pk := match t with | 0 => p | 1 => pkV p | 2 => pkH p | _ => pkS p
theorem stHV (s : Stk) : stH (stV s) = stS s := by
  simp only [stH, stV, stS, List.map_reverse, List.reverse_reverse, List.map_map]
  apply List.map_congr_left
  intro l _
  simp only [Function.comp, Lay.lv, Lay.ov, Lay.sp, Lay.mk.injEq, true_and, and_true]
  omega
theorem tnP_eq {p : Pk} {r c : Nat} (h : OkPk p r c) (t : Nat) (ht : t < 4) : ((List.range r).map fun i => D.lst ((List.range c).map fun j => encSt (tnAt t p r c i j))) = (tnP t p).map encRow := by
  have hr := h.hr
  match t, ht with
  | 0, _ =>
    simp only [tnAt, tnP]
    rw [← hr, rg_id (fun row : List Stk => D.lst ((List.range c).map fun j => encSt (row.getD j default)))]
    refine List.map_congr_left fun row hm => ?_
    rw [← h.hc row hm, rg_id encSt]; rfl
  | 1, _ =>
    simp only [tnAt, tnP, pkV]
    rw [← hr, rg_id (fun row : List Stk => D.lst ((List.range c).map fun j => encSt (stV (row.getD ((c : Int) - 1 - (j : Nat)).toNat default)))), List.map_map]
    refine List.map_congr_left fun row hm => ?_
    have := h.hc row hm
    rw [← this, rg_rev (fun s => encSt (stV s)) default row rfl]
    simp only [Function.comp, encRow, List.map_map]
    rfl
  | 2, _ =>
    simp only [tnAt, tnP, pkH]
    rw [← hr, rg_rev (fun row : List Stk => D.lst ((List.range c).map fun j => encSt (stH (row.getD j default)))) default p rfl, List.map_map]
    refine List.map_congr_left fun row hm => ?_
    have := h.hc row (List.mem_reverse.mp hm)
    rw [← this, rg_id (fun s => encSt (stH s))]
    simp only [Function.comp, encRow, List.map_map]
    rfl
  | 3, _ =>
    simp only [tnAt, tnP, pkS, stHV]
    rw [← hr, rg_rev (fun row : List Stk => D.lst ((List.range c).map fun j => encSt (stS (row.getD ((c : Int) - 1 - (j : Nat)).toNat default)))) default p rfl, List.map_map]
    refine List.map_congr_left fun row hm => ?_
    have := h.hc row (List.mem_reverse.mp hm)
    rw [← this, rg_rev (fun s => encSt (stS s)) default row rfl]
    simp only [Function.comp, encRow, List.map_map]
    rfl
abbrev S__law_turned (P : Prog) (f : Nat) : Prop := ∀ n (p : Pk) r c M (t : Nat), t < 4 → OkPk p r c → callN P (n + 2) f [encPk p, .str (tnW t)] M = .ok (Md.z, encPk (tnP t p)) M
theorem p__law_turned {P : Prog} {f a : Nat} (hP : P.fns[f]? = some ⟨2, 8, t__law_turned a⟩) (hv : S__law_overV P a) (hh : S__law_overH P a) : S__law_turned P f := by
  intro n p r c M t ht h
  have hr := h.hr
  have r1 := h.r1
  have k1 := h.c1
  have i0 : ixD (encPk p) (.int 0) = some (encRow (p.getD 0 default)) := ix_row (by decide) (by omega)
  have rl : (p.getD 0 default).length = c := h.row (by omega)
  rw [callN_eq hP rfl]
  have body : ∀ acc i, i < r → acc.length < 16777216 → forB (cfgN P (n + 1)) (.v 5) (t__law_turned_l2 a) (.int (i : Nat)) [.fz (encPk p), .fz (.str (tnW t)), .fz (.int (r : Nat)), .fz (.int (c : Nat)), .ow (.s .z) (.lst acc), .un, .un, .un] M =
      .nx [.fz (encPk p), .fz (.str (tnW t)), .fz (.int (r : Nat)), .fz (.int (c : Nat)), .ow (.s .z) (.lst (acc ++ [D.lst ((List.range c).map fun j => encSt (tnAt t p r c i j))])), .un, .un, .un] M := by
    intro acc i hi ha
    simp! only [forB, t__law_turned_l2]
    rw [forL_app0N (fun a => [.fz (encPk p), .fz (.str (tnW t)), .fz (.int (r : Nat)), .fz (.int (c : Nat)), .ow (.s .z) (.lst acc), .fz (.int (i : Nat)), .ow (.s .z) (.lst a), .un]) (g := fun j => encSt (tnAt t p r c i j)) (by omega) fun acc2 j hj ha2 => by
      have z1 : ((r : Int) - 1 - (i : Nat)).toNat < r := by omega
      have z2 : ((c : Int) - 1 - (j : Nat)).toNat < c := by omega
      have ri := h.row hi
      have ri2 := h.row z1
      have i1 : ixD (encPk p) (.int (i : Nat)) = some (encRow (p.getD i default)) := ix_row (i := i) (by omega) (by omega)
      have i2 : ixD (encPk p) (.int ((r : Int) - 1 - (i : Nat))) = some (encRow (p.getD ((r : Int) - 1 - (i : Nat)).toNat default)) := ix_row (by omega) (by omega)
      have j1 : ixD (encRow (p.getD i default)) (.int (j : Nat)) = some (encSt ((p.getD i default).getD j default)) := ix_stk (i := j) (by omega) (by omega)
      have j2 : ixD (encRow (p.getD i default)) (.int ((c : Int) - 1 - (j : Nat))) = some (encSt ((p.getD i default).getD ((c : Int) - 1 - (j : Nat)).toNat default)) := ix_stk (by omega) (by omega)
      have j3 : ixD (encRow (p.getD ((r : Int) - 1 - (i : Nat)).toNat default)) (.int (j : Nat)) = some (encSt ((p.getD ((r : Int) - 1 - (i : Nat)).toNat default).getD j default)) := ix_stk (i := j) (by omega) (by omega)
      have j4 : ixD (encRow (p.getD ((r : Int) - 1 - (i : Nat)).toNat default)) (.int ((c : Int) - 1 - (j : Nat))) = some (encSt ((p.getD ((r : Int) - 1 - (i : Nat)).toNat default).getD ((c : Int) - 1 - (j : Nat)).toNat default)) := ix_stk (by omega) (by omega)
      have s1 := h.st4 hi hj
      have s2 := h.st4 hi z2
      have s3 := h.st4 z1 hj
      have s4 := h.st4 z1 z2
      have v1 := hv n ((p.getD i default).getD ((c : Int) - 1 - (j : Nat)).toNat default) M (by omega)
      have v2 := hh n ((p.getD ((r : Int) - 1 - (i : Nat)).toNat default).getD j default) M (by omega)
      have v3 := hv n ((p.getD ((r : Int) - 1 - (i : Nat)).toNat default).getD ((c : Int) - 1 - (j : Nat)).toNat default) M (by omega)
      have v4 := hh n (stV ((p.getD ((r : Int) - 1 - (i : Nat)).toNat default).getD ((c : Int) - 1 - (j : Nat)).toNat default)) M (by simp only [stV, List.length_map, List.length_reverse]; omega)
      have bl : ∀ f : Bool, bltD .list [encSt ((p.getD i default).getD j default)] = some (encSt ((p.getD i default).getD j default)) := fun _ => rfl
      match t, ht with
      | 0, _ => simp! only [t__law_turned_l1, tnW, tnAt, i1, j1, bl true]
      | 1, _ => simp! only [t__law_turned_l1, tnW, tnAt, i1, j2, v1]
      | 2, _ => simp! only [t__law_turned_l1, tnW, tnAt, i2, j3, v2]
      | 3, _ => simp! only [t__law_turned_l1, tnW, tnAt, i2, j4, v3, v4]]
    simp! only []
  simp! only [t__law_turned, len_pk, len_row, hr, rl, i0]
  rw [forL_app0N (fun a => [.fz (encPk p), .fz (.str (tnW t)), .fz (.int (r : Nat)), .fz (.int (c : Nat)), .ow (.s .z) (.lst a), .un, .un, .un]) (by omega) body]
  simp! only []
  rw [tnP_eq h t ht]; rfl
end VL

/-! L4: folds -/
namespace VL
open PySem
/-- a fold -/
structure Fold where
  v : Bool
  at_ : Nat
  hi : Bool
  ov : Bool
  deriving DecidableEq, Inhabited
def lnS (v : Bool) : Str := if v then "V" else "H"
def ptS (h : Bool) : Str := if h then "high" else "low"
def wyS (o : Bool) : Str := if o then "over" else "under"
def Fold.enc (f : Fold) : D := .tup [.str (lnS f.v), .int f.at_, .str (ptS f.hi), .str (wyS f.ov)]
/-- rows for columns -/
def cols {α : Type} [Inhabited α] (p : List (List α)) : List (List α) := (List.range (p.getD 0 []).length).map fun j => p.map fun r => r.getD j default
def strips {α : Type} [Inhabited α] (v : Bool) (p : List (List α)) : List (List α) := if v then cols p else p
def ovS (v : Bool) (s : Stk) : Stk := if v then stV s else stH s
/-- the program -/
/- is_whole(number): 0=number -/
def t_is_whole : List Sm := [.ret (.and [(.isi (.var 0) .int), (.not (.isi (.var 0) .bool))])]
abbrev S_is_whole (P : Prog) (f : Nat) : Prop := ∀ n (i : Int) M, callN P (n + 1) f [.int i] M = .ok (.z, .bl true) M
theorem p_is_whole {P : Prog} {f : Nat} (hP : P.fns[f]? = some ⟨1, 1, t_is_whole⟩) : S_is_whole P f := by
  intro n i M
  rw [callN_eq hP rfl]
  simp! only [t_is_whole]
/-- the three constants of folds -/
structure FoldC (P : Prog) (a b c : Nat) : Prop where
  ln : P.consts[a]? = some (.ktup [.str "V", .str "H"])
  pt : P.consts[b]? = some (.ktup [.str "low", .str "high"])
  wy : P.consts[c]? = some (.ktup [.str "over", .str "under"])
theorem mem_ln (v : Bool) : cmpD .isin (.str (lnS v)) (.ktup [.str "V", .str "H"]) = some (.bl true) := by cases v <;> decide +kernel
theorem mem_pt (v : Bool) : cmpD .isin (.str (ptS v)) (.ktup [.str "low", .str "high"]) = some (.bl true) := by cases v <;> decide +kernel
theorem mem_wy (v : Bool) : cmpD .isin (.str (wyS v)) (.ktup [.str "over", .str "under"]) = some (.bl true) := by cases v <;> decide +kernel
/- is_fold(fold): 0=fold 1=line 2=at 3=part 4=way -/
def t_is_fold (g_LINES : Nat) (c_is_whole : Nat) (g_PARTS : Nat) (g_WAYS : Nat) : List Sm := [.ifs (.or [(.not (.isi (.var 0) .tuple)), (.cmp .ne (.blt .len [(.var 0)]) (.lit (.int 4)))]) [.ret (.lit (.bl false))] [],
  .asg (.t [(.v 1), (.v 2), (.v 3), (.v 4)]) (.var 0),
  .ret (.and [(.cmp .isin (.var 1) (.glob g_LINES)), (.call c_is_whole [(.var 2)]), (.cmp .isin (.var 3) (.glob g_PARTS)), (.cmp .isin (.var 4) (.glob g_WAYS))])]
abbrev S_is_fold (P : Prog) (f : Nat) : Prop := ∀ n (x : Fold) M, callN P (n + 2) f [x.enc] M = .ok (.z, .bl true) M
theorem p_is_fold {P : Prog} {f a b c w : Nat} (hP : P.fns[f]? = some ⟨1, 5, t_is_fold a w b c⟩) (h0 : FoldC P a b c) (h1 : S_is_whole P w) : S_is_fold P f := by
  intro n x M
  rw [callN_eq hP rfl]
  have k1 := h0.ln
  have k2 := h0.pt
  have k3 := h0.wy
  simp! only [t_is_fold, Fold.enc, k1, k2, k3, mem_ln, mem_pt, mem_wy, h1]
/- strip_count(packet, line): 0=packet 1=line 2=rows 3=cols -/
def t_strip_count (c_extent : Nat) : List Sm := [.asg (.t [(.v 2), (.v 3)]) (.call c_extent [(.var 0)]),
  .ifs (.cmp .eq (.var 1) (.lit (.str "V"))) [.ret (.var 3)] [],
  .ret (.var 2)]
abbrev S_strip_count (P : Prog) (f : Nat) : Prop := ∀ n (p : Pk) (v : Bool) M, p ≠ [] → callN P (n + 2) f [encPk p, .str (lnS v)] M = .ok (.z, .int (strips v p).length) M
theorem p_strip_count {P : Prog} {f e : Nat} (hP : P.fns[f]? = some ⟨2, 4, t_strip_count e⟩) (h1 : S_extent P e) : S_strip_count P f := by
  intro n p v M hp
  rw [callN_eq hP rfl]
  have e1 := h1 n p M hp
  have hc : (cols p).length = (p.getD 0 []).length := by simp [cols]
  cases v
  · simp! only [t_strip_count, e1, lnS, strips]
  · simp! only [t_strip_count, e1, lnS, strips, hc]
/- check_line(packet, line, at): 0=packet 1=line 2=at -/
def t_check_line (c_strip_count : Nat) (e_NoSuchLine : Nat) : List Sm := [.ifs (.not (.chain .le .lt (.lit (.int 1)) (.var 2) (.call c_strip_count [(.var 0), (.var 1)]))) [.raise e_NoSuchLine] []]
abbrev S_check_line (P : Prog) (f : Nat) : Prop := ∀ n (p : Pk) (v : Bool) (a : Nat) M, p ≠ [] → 1 ≤ a → a < (strips v p).length → callN P (n + 3) f [encPk p, .str (lnS v), .int a] M = .ok (.z, .non) M
theorem p_check_line {P : Prog} {f e k : Nat} (hP : P.fns[f]? = some ⟨3, 3, t_check_line e k⟩) (h1 : S_strip_count P e) : S_check_line P f := by
  intro n p v a M hp h0 ha
  rw [callN_eq hP rfl]
  have e1 := h1 n p v M hp
  have l1 : (1 : Int) ≤ (a : Nat) := by omega
  have l2 : (a : Int) < ((strips v p).length : Nat) := by omega
  simp! only [t_check_line, e1, l1, l2]
/- check_fold(packet, fold): 0=packet 1=fold -/
def t_check_fold (c_is_fold : Nat) (e_InvalidFold : Nat) (c_check_line : Nat) : List Sm := [.ifs (.not (.call c_is_fold [(.var 1)])) [.raise e_InvalidFold] [],
  .expr (.call c_check_line [(.var 0), (.ix (.var 1) (.lit (.int 0))), (.ix (.var 1) (.lit (.int 1)))])]
abbrev S_check_fold (P : Prog) (f : Nat) : Prop := ∀ n (p : Pk) (x : Fold) M, p ≠ [] → 1 ≤ x.at_ → x.at_ < (strips x.v p).length → callN P (n + 4) f [encPk p, x.enc] M = .ok (.z, .non) M
theorem p_check_fold {P : Prog} {f a b k : Nat} (hP : P.fns[f]? = some ⟨2, 2, t_check_fold a k b⟩) (h1 : S_is_fold P a) (h2 : S_check_line P b) : S_check_fold P f := by
  intro n p x M hp h0 ha
  rw [callN_eq hP rfl]
  have e1 := h1 (n + 1) x M
  have e2 := h2 n p x.v x.at_ M hp h0 ha
  simp only [Fold.enc] at e1
  simp! only [t_check_fold, Fold.enc, e1, e2]
/-! ### strips -/
section
variable {α : Type} [Inhabited α]
def encG (e : α → D) (p : List (List α)) : D := .lst (p.map fun r => .lst (r.map e))
def RectG (p : List (List α)) (c : Nat) : Prop := ∀ r ∈ p, r.length = c
theorem cols_rect (p : List (List α)) : RectG (cols p) p.length := fun r hr => by
  simp only [cols, List.mem_map] at hr
  obtain ⟨j, _, rfl⟩ := hr
  simp
theorem cols_len {p : List (List α)} {c : Nat} (h : RectG p c) (hp : p ≠ []) : (cols p).length = c := by
  cases p with
  | nil => exact absurd rfl hp
  | cons r p => simp [cols, h r List.mem_cons_self]
end
/- strips_of(packet, line): 0=packet 1=line 2=row 3=col -/
def t_strips_of : List Sm := [.ifs (.cmp .eq (.var 1) (.lit (.str "V"))) [.ret (.comp (.comp (.ix (.var 2) (.var 3)) (.v 2) .seq [(.var 0)] [] [2]) (.v 3) .rng1 [(.blt .len [(.ix (.var 0) (.lit (.int 0)))])] [] [3])] [],
  .ret (.comp (.blt .list [(.var 2)]) (.v 2) .seq [(.var 0)] [] [2])]
abbrev S_strips_of (P : Prog) (f : Nat) : Prop := ∀ {α : Type} [Inhabited α] (e : α → D) n (p : List (List α)) (c : Nat) (v : Bool) M, p ≠ [] → c ≤ 16777216 → RectG p c → callN P (n + 1) f [encG e p, .str (lnS v)] M = .ok (.z, encG e (strips v p)) M
theorem p_strips_of {P : Prog} {f : Nat} (hP : P.fns[f]? = some ⟨2, 4, t_strips_of⟩) : S_strips_of P f := by
  intro α _ e n p c v M hp hc hr
  rw [callN_eq hP rfl]
  cases v
  · simp! only [t_strips_of, encG, lnS, strips]
  · have i0 : ixD (.lst (p.map fun r => .lst (r.map e))) (.int 0) = some (.lst ((p.getD 0 []).map e)) := by
      cases p with
      | nil => exact absurd rfl hp
      | cons r p => exact x_l0
    have l0 : (p.getD 0 []).length = c := by
      cases p with
      | nil => exact absurd rfl hp
      | cons r p => exact hr r List.mem_cons_self
    have ix : ∀ (r : List α) (i : Nat), r ∈ p → i < c → ixD (.lst (r.map e)) (.int (i : Nat)) = some (e (r.getD i default)) := fun r i h1 h2 => by
      have := hr r h1
      exact x_map (by omega) (by omega)
    simp! only [t_strips_of, encG, lnS, strips, i0, l0, ix]
    simp only [cols, l0, List.map_map, Function.comp_def]
/- grid_of(strips, line): 0=strips 1=line 2=strip 3=row -/
def t_grid_of : List Sm := [.ifs (.cmp .eq (.var 1) (.lit (.str "V"))) [.ret (.comp (.comp (.ix (.var 2) (.var 3)) (.v 2) .seq [(.var 0)] [] [2]) (.v 3) .rng1 [(.blt .len [(.ix (.var 0) (.lit (.int 0)))])] [] [3])] [],
  .ret (.comp (.blt .list [(.var 2)]) (.v 2) .seq [(.var 0)] [] [2])]
theorem p_grid_of {P : Prog} {f : Nat} (hP : P.fns[f]? = some ⟨2, 4, t_grid_of⟩) : S_strips_of P f := p_strips_of (f := f) (P := P) (by rw [hP]; rfl)
/- span(count, at, part): 0=count 1=at 2=part -/
def t_span : List Sm := [.ifs (.cmp .eq (.var 2) (.lit (.str "high"))) [.ret (.tup [(.blt .min [(.lit (.int 0)), (.bin .sub (.bin .mul (.lit (.int 2)) (.var 1)) (.var 0))]), (.var 1)])] [],
  .ret (.tup [(.var 1), (.blt .max [(.var 0), (.bin .mul (.lit (.int 2)) (.var 1))])])]
def fst_ (n a : Nat) (h : Bool) : Int := if h then min 0 (2 * a - n) else a
def stp_ (n a : Nat) (h : Bool) : Int := if h then a else max n (2 * a)
abbrev S_span (P : Prog) (f : Nat) : Prop := ∀ k (n a : Nat) (h : Bool) M, n ≤ 16777216 → a ≤ 16777216 → callN P (k + 1) f [.int n, .int a, .str (ptS h)] M = .ok (.z, .tup [.int (fst_ n a h), .int (stp_ n a h)]) M
theorem p_span {P : Prog} {f : Nat} (hP : P.fns[f]? = some ⟨3, 3, t_span⟩) : S_span P f := by
  intro k n a h M hn ha
  rw [callN_eq hP rfl]
  cases h <;> simp! only [t_span, ptS, fst_, stp_]
/-! ### the strips that are folded over, those that lie still -/
abbrev Strip := List Stk
def mvB (n a : Nat) (h : Bool) (k : Nat) : Bool := decide (a ≤ k) == h
/-- at a place: the strip folded to it, the strip that lies there -/
def mvS (f : Fold) (S : List Strip) : List (Int × Strip) := ((List.range S.length).filter fun k => mvB S.length f.at_ f.hi k).map fun k => (2 * (f.at_ : Int) - 1 - (k : Nat), (S.getD k default).map (ovS f.v))
def stlS (f : Fold) (S : List Strip) : List (Int × Strip) := ((List.range S.length).filter fun k => !mvB S.length f.at_ f.hi k).map fun k => (((k : Nat) : Int), S.getD k default)
theorem filter_succ {p : Nat → Bool} {i : Nat} : (List.range (i + 1)).filter p = (List.range i).filter p ++ (if p i = true then [i] else []) := by
  rw [List.range_succ, List.filter_append]
  congr 1
  cases h : p i <;> simp [h]
theorem key_ne {g : Nat → Int} {α : Type} {v : Nat → α} {p : Nat → Bool} {i : Nat} (inj : ∀ j, j < i → g j ≠ g i) : ∀ q ∈ (((List.range i).filter p).map fun k => (g k, v k)), q.1 ≠ g i := fun q hq => by
  obtain ⟨k, hk, rfl⟩ := List.mem_map.mp hq
  exact inj k (List.mem_range.mp (List.mem_filter.mp hk).1)
abbrev S_stack_over2 (P : Prog) (f : Nat) : Prop := ∀ n (s : Stk) (v : Bool) M, callN P (n + 2) f [encSt s, .str (lnS v)] M = .ok (.z, encSt (ovS v s)) M
theorem S_stack_over2.of {P : Prog} {f : Nat} (h1 : S_stack_overV P f) (h2 : S_stack_overH P f) : S_stack_over2 P f := fun n s v M => by
  cases v
  · exact h2 n s M
  · exact h1 n s M
theorem hi_s (h : Bool) : decide (ptS h = Str.ofString "high") = h := by cases h <;> decide +kernel
theorem ix_pk {S : List Strip} {k : Nat} (hk : k < S.length) : ixD (encPk S) (.int (k : Nat)) = some (encRow (S.getD k default)) := by
  unfold encPk
  have := x_map (enc := encRow) (l := S) (i := (k : Nat)) (by omega) (by omega)
  simpa using this
/- moved_strips(strips, fold): 0=strips 1=fold 2=line 3=at 4=part 5=_ 6=found 7=k 8=stack -/
def t_moved_strips_l1 (c_stack_over : Nat) : List Sm := [.ifs (.cmp .eq (.cmp .ge (.var 7) (.var 3)) (.cmp .eq (.var 4) (.lit (.str "high")))) [.dset 6 (.bin .sub (.bin .sub (.bin .mul (.lit (.int 2)) (.var 3)) (.lit (.int 1))) (.var 7)) (.comp (.call c_stack_over [(.var 8), (.var 2)]) (.v 8) .seq [(.ix (.var 0) (.var 7))] [] [8])] [],
  .kill [7]]
def t_moved_strips (c_stack_over : Nat) : List Sm := [.asg (.t [(.v 2), (.v 3), (.v 4), (.v 5)]) (.var 1),
  .own 6 (.dn (.dict0 false)),
  .for_ (.v 7) .rng1 [(.blt .len [(.var 0)])] (t_moved_strips_l1 c_stack_over),
  .freeze 6,
  .ret (.var 6)]
abbrev S_moved (P : Prog) (f : Nat) : Prop := ∀ n (S : List Strip) (x : Fold) M, S.length ≤ 1000 → callN P (n + 3) f [encPk S, x.enc] M = .ok (.z, .dic false ((mvS x S).map (enK encRow))) M
theorem p_moved {P : Prog} {f a : Nat} (hP : P.fns[f]? = some ⟨2, 9, t_moved_strips a⟩) (h1 : S_stack_over2 P a) : S_moved P f := by
  intro n S x M hS
  rw [callN_eq hP rfl]
  have lp := forL_N (M := M) (n := S.length) (body := forB (cfgN P (n + 2)) (.v 7) (t_moved_strips_l1 a))
    (ρ0 := [.fz (encPk S), .fz x.enc, .fz (.str (lnS x.v)), .fz (.int x.at_), .fz (.str (ptS x.hi)), .fz (.str (wyS x.ov)), .ow (.s .z) (.dic false []), .un, .un])
    (fun i => [.fz (encPk S), .fz x.enc, .fz (.str (lnS x.v)), .fz (.int x.at_), .fz (.str (ptS x.hi)), .fz (.str (wyS x.ov)),
      .ow (.s .z) (.dic false ((((List.range i).filter fun k => mvB S.length x.at_ x.hi k).map fun k => (2 * (x.at_ : Int) - 1 - (k : Nat), (S.getD k default).map (ovS x.v))).map (enK encRow))), .un, .un]) (by simp) rfl fun i hi => by
      have ix := ix_pk hi
      have hl : ((List.range i).filter fun k => mvB S.length x.at_ x.hi k).length ≤ i := by
        have := List.length_filter_le (fun k => mvB S.length x.at_ x.hi k) (List.range i)
        simpa using this
      rw [filter_succ]
      by_cases h : (decide ((x.at_ : Int) ≤ (i : Nat)) = x.hi)
      · have hb : mvB S.length x.at_ x.hi i = true := by
          unfold mvB; rw [← h]; simp
        have pn := putD_mapN (e := encRow) (l := ((List.range i).filter fun k => mvB S.length x.at_ x.hi k).map fun k => (2 * (x.at_ : Int) - 1 - (k : Nat), (S.getD k default).map (ovS x.v))) (k := 2 * (x.at_ : Int) - 1 - (i : Nat))
          (v := encRow ((S.getD i default).map (ovS x.v))) (key_ne (g := fun k : Nat => 2 * (x.at_ : Int) - 1 - (k : Nat)) fun j hj => by omega)
        have ri : (S.getD i default).map (fun s => encSt (ovS x.v s)) = ((S.getD i default).map (ovS x.v)).map encSt := by rw [List.map_map]; rfl
        simp only [encRow, List.map_map, Function.comp_def] at pn ix
        simp! only [forB, t_moved_strips_l1, hi_s, h, ix, h1, encRow, hb, pn, List.map_map, Function.comp_def]
        simp only [enK, encRow, List.map_map, Function.comp_def]
      · have hb : mvB S.length x.at_ x.hi i = false := by
          unfold mvB; cases hx : x.hi <;> simp_all
        simp! only [forB, t_moved_strips_l1, hi_s, h, hb, List.append_nil]
  simp only [Fold.enc, encPk] at lp
  simp! only [t_moved_strips, Fold.enc, encPk, lp]
  rfl
/- still_strips(strips, fold): 0=strips 1=fold 2=_ 3=at 4=part 5=found 6=k 7=stack -/
def t_still_strips_l1 : List Sm := [.ifs (.cmp .ne (.cmp .ge (.var 6) (.var 3)) (.cmp .eq (.var 4) (.lit (.str "high")))) [.dset 5 (.var 6) (.comp (.blt .list [(.var 7)]) (.v 7) .seq [(.ix (.var 0) (.var 6))] [] [7])] [],
  .kill [6]]
def t_still_strips : List Sm := [.asg (.t [(.v 2), (.v 3), (.v 4), (.v 2)]) (.var 1),
  .own 5 (.dn (.dict0 false)),
  .for_ (.v 6) .rng1 [(.blt .len [(.var 0)])] (t_still_strips_l1),
  .freeze 5,
  .ret (.var 5)]
abbrev S_still (P : Prog) (f : Nat) : Prop := ∀ n (S : List Strip) (x : Fold) M, S.length ≤ 1000 → callN P (n + 1) f [encPk S, x.enc] M = .ok (.z, .dic false ((stlS x S).map (enK encRow))) M
theorem p_still {P : Prog} {f : Nat} (hP : P.fns[f]? = some ⟨2, 8, t_still_strips⟩) : S_still P f := by
  intro n S x M hS
  rw [callN_eq hP rfl]
  have lp := forL_N (M := M) (n := S.length) (body := forB (cfgN P n) (.v 6) t_still_strips_l1)
    (ρ0 := [.fz (encPk S), .fz x.enc, .fz (.str (wyS x.ov)), .fz (.int x.at_), .fz (.str (ptS x.hi)), .ow (.s .z) (.dic false []), .un, .un])
    (fun i => [.fz (encPk S), .fz x.enc, .fz (.str (wyS x.ov)), .fz (.int x.at_), .fz (.str (ptS x.hi)),
      .ow (.s .z) (.dic false ((((List.range i).filter fun k => !mvB S.length x.at_ x.hi k).map fun k => (((k : Nat) : Int), S.getD k default)).map (enK encRow))), .un, .un]) (by simp) rfl fun i hi => by
      have ix := ix_pk hi
      have hl : ((List.range i).filter fun k => !mvB S.length x.at_ x.hi k).length ≤ i := by
        have := List.length_filter_le (fun k => !mvB S.length x.at_ x.hi k) (List.range i)
        simpa using this
      rw [filter_succ]
      by_cases h : (decide ((x.at_ : Int) ≤ (i : Nat)) = x.hi)
      · have hb : mvB S.length x.at_ x.hi i = true := by
          unfold mvB; rw [← h]; simp
        simp! only [forB, t_still_strips_l1, hi_s, h, hb, List.append_nil]
      · have hb : mvB S.length x.at_ x.hi i = false := by
          unfold mvB; cases hx : x.hi <;> simp_all
        have pn := putD_mapN (e := encRow) (l := ((List.range i).filter fun k => !mvB S.length x.at_ x.hi k).map fun k => (((k : Nat) : Int), S.getD k default)) (k := ((i : Nat) : Int))
          (v := .lst ((S.getD i default).map fun s => .lst (s.map Lay.enc))) (key_ne (g := fun k : Nat => ((k : Nat) : Int)) fun j hj => by omega)
        simp only [encRow, List.map_map, Function.comp_def] at pn ix
        simp! only [forB, t_still_strips_l1, hi_s, h, ix, encSt, hb, pn, List.map_map, Function.comp_def]
        rfl
  simp only [Fold.enc, encPk] at lp
  simp! only [t_still_strips, Fold.enc, encPk, lp]
  rfl
/-! ### both at a place -/
abbrev PairC := Option Stk × Option Stk
def encO : Option Stk → D
  | none => .non
  | some s => encSt s
def encPr (p : PairC) : D := .tup [encO p.1, encO p.2]
def encRO : Option Strip → D
  | none => .non
  | some r => encRow r
def bothP : Option Strip → Option Strip → List PairC
  | none, none => []
  | none, some s => s.map fun x => (none, some x)
  | some m, none => m.map fun x => (some x, none)
  | some m, some s => (m.zip s).map fun p => (some p.1, some p.2)
/- both_of(moved, still): 0=moved 1=still 2=one 3=other 4=stack -/
def t_both_of : List Sm := [.ifs (.isN (.var 0) false) [.ret (.comp (.tup [(.lit .non), (.var 4)]) (.v 4) .seq [(.var 1)] [] [4])] [],
  .ifs (.isN (.var 1) false) [.ret (.comp (.tup [(.var 4), (.lit .non)]) (.v 4) .seq [(.var 0)] [] [4])] [],
  .ret (.comp (.tup [(.var 2), (.var 3)]) (.t [(.v 2), (.v 3)]) .zip [(.var 0), (.var 1)] [] [2, 3])]
abbrev S_both (P : Prog) (f : Nat) : Prop := ∀ n (m s : Option Strip) M, ¬ (m = none ∧ s = none) → callN P (n + 1) f [encRO m, encRO s] M = .ok (.z, .lst ((bothP m s).map encPr)) M
theorem p_both {P : Prog} {f : Nat} (hP : P.fns[f]? = some ⟨2, 5, t_both_of⟩) : S_both P f := by
  intro n m s M h
  rw [callN_eq hP rfl]
  cases m with
  | none =>
    cases s with
    | none => exact absurd ⟨rfl, rfl⟩ h
    | some s =>
      simp! only [t_both_of, encRO, encRow, bothP]
      simp only [List.map_map]; rfl
  | some m =>
    cases s with
    | none =>
      simp! only [t_both_of, encRO, encRow, bothP]
      simp only [List.map_map]; rfl
    | some s =>
      simp! only [t_both_of, encRO, encRow, bothP, i_zip]
      simp only [List.map_map]; rfl
def mvAt (x : Fold) (S : List Strip) (p : Int) : Option Strip := if 0 ≤ 2 * (x.at_ : Int) - 1 - p ∧ 2 * (x.at_ : Int) - 1 - p < S.length ∧ mvB S.length x.at_ x.hi (2 * (x.at_ : Int) - 1 - p).toNat = true then some ((S.getD (2 * (x.at_ : Int) - 1 - p).toNat default).map (ovS x.v)) else none
def stAt (x : Fold) (S : List Strip) (p : Int) : Option Strip := if 0 ≤ p ∧ p < S.length ∧ mvB S.length x.at_ x.hi p.toNat = false then some (S.getD p.toNat default) else none
theorem mv_look (x : Fold) (S : List Strip) (p : Int) : lookI p (mvS x S) = mvAt x S p := by
  unfold mvAt
  split
  · rename_i h
    refine lookI_some ?_ fun q hq e => ?_
    · refine List.mem_map.mpr ⟨(2 * (x.at_ : Int) - 1 - p).toNat, List.mem_filter.mpr ⟨List.mem_range.mpr (by omega), h.2.2⟩, ?_⟩
      exact Prod.ext (by simp only; omega) rfl
    · obtain ⟨k, hk, rfl⟩ := List.mem_map.mp hq
      simp only at e
      have : (2 * (x.at_ : Int) - 1 - p).toNat = k := by omega
      rw [this]
  · rename_i h
    refine lookI_none fun q hq e => h ?_
    obtain ⟨k, hk, rfl⟩ := List.mem_map.mp hq
    obtain ⟨h1, h2⟩ := List.mem_filter.mp hk
    simp only at e
    have : (2 * (x.at_ : Int) - 1 - p).toNat = k := by omega
    have := List.mem_range.mp h1
    refine ⟨by omega, by omega, ?_⟩
    rw [‹(2 * (x.at_ : Int) - 1 - p).toNat = k›]; exact h2
theorem st_look (x : Fold) (S : List Strip) (p : Int) : lookI p (stlS x S) = stAt x S p := by
  unfold stAt
  split
  · rename_i h
    refine lookI_some ?_ fun q hq e => ?_
    · refine List.mem_map.mpr ⟨p.toNat, List.mem_filter.mpr ⟨List.mem_range.mpr (by omega), by rw [h.2.2]; rfl⟩, ?_⟩
      exact Prod.ext (by simp only; omega) rfl
    · obtain ⟨k, hk, rfl⟩ := List.mem_map.mp hq
      simp only at e
      have : p.toNat = k := by omega
      rw [this]
  · rename_i h
    refine lookI_none fun q hq e => h ?_
    obtain ⟨k, hk, rfl⟩ := List.mem_map.mp hq
    obtain ⟨h1, h2⟩ := List.mem_filter.mp hk
    simp only at e
    have e2 : p.toNat = k := by omega
    have := List.mem_range.mp h1
    refine ⟨by omega, by omega, ?_⟩
    rw [e2]; simpa using h2
def numP (x : Fold) (S : List Strip) : Nat := (stp_ S.length x.at_ x.hi - fst_ S.length x.at_ x.hi).toNat
def ovl (x : Fold) (S : List Strip) : List (List PairC) := (List.range (numP x S)).map fun i => bothP (mvAt x S (fst_ S.length x.at_ x.hi + (i : Nat))) (stAt x S (fst_ S.length x.at_ x.hi + (i : Nat)))
/-- a fold that goes -/
structure Fold.Ok (x : Fold) (n : Nat) : Prop where
  lo : 1 ≤ x.at_
  hi : x.at_ < n
theorem some_at {x : Fold} {S : List Strip} (h : x.Ok S.length) {i : Nat} (hi : i < numP x S) : ¬ (mvAt x S (fst_ S.length x.at_ x.hi + (i : Nat)) = none ∧ stAt x S (fst_ S.length x.at_ x.hi + (i : Nat)) = none) := by
  have h1 := h.lo
  have h2 := h.hi
  unfold numP at hi
  rintro ⟨e1, e2⟩
  unfold mvAt at e1
  unfold stAt at e2
  have f1 := (ite_eq_right_iff.mp e1)
  have f2 := (ite_eq_right_iff.mp e2)
  cases hh : x.hi
  · rw [hh] at hi f1 f2
    simp only [fst_, stp_, Bool.false_eq_true, if_false, mvB, beq_false, Bool.not_eq_true', decide_eq_false_iff_not, Bool.not_eq_false', decide_eq_true_eq, reduceCtorEq, imp_false] at hi f1 f2
    omega
  · rw [hh] at hi f1 f2
    simp only [fst_, stp_, if_true, mvB, beq_true, decide_eq_false_iff_not, decide_eq_true_eq, reduceCtorEq, imp_false] at hi f1 f2
    omega
theorem getD_len {S : List Strip} {c k : Nat} (hr : RectG S c) (h : k < S.length) : (S.getD k default).length = c := hr _ (mem_getD h)
theorem mvAt_len {x : Fold} {S : List Strip} {c : Nat} (hr : RectG S c) {p : Int} {r : Strip} (h : mvAt x S p = some r) : r.length = c := by
  unfold mvAt at h
  split at h
  · cases h
    rw [List.length_map]; exact getD_len hr (by omega)
  · cases h
theorem stAt_len {x : Fold} {S : List Strip} {c : Nat} (hr : RectG S c) {p : Int} {r : Strip} (h : stAt x S p = some r) : r.length = c := by
  unfold stAt at h
  split at h
  · cases h
    exact getD_len hr (by omega)
  · cases h
theorem ovl_rect {x : Fold} {S : List Strip} {c : Nat} (h : x.Ok S.length) (hr : RectG S c) : RectG (ovl x S) c := fun r hr' => by
  obtain ⟨i, hi, rfl⟩ := List.mem_map.mp hr'
  have nn := some_at h (List.mem_range.mp hi)
  cases e1 : mvAt x S (fst_ S.length x.at_ x.hi + (i : Nat)) with
  | none =>
    cases e2 : stAt x S (fst_ S.length x.at_ x.hi + (i : Nat)) with
    | none => exact absurd ⟨e1, e2⟩ nn
    | some s => simp [bothP, stAt_len hr e2]
  | some m =>
    cases e2 : stAt x S (fst_ S.length x.at_ x.hi + (i : Nat)) with
    | none => simp [bothP, mvAt_len hr e1]
    | some s => simp [bothP, mvAt_len hr e1, stAt_len hr e2]
theorem numP_pos {x : Fold} {S : List Strip} (h : x.Ok S.length) : 0 < numP x S ∧ numP x S ≤ 2 * S.length := by
  have h1 := h.lo
  have h2 := h.hi
  unfold numP
  cases hh : x.hi
  · simp only [fst_, stp_, Bool.false_eq_true, if_false]; omega
  · simp only [fst_, stp_, if_true]; omega
/- overlaid(packet, fold): 0=packet 1=fold 2=line 3=at 4=part 5=_ 6=strips 7=moved 8=still 9=first 10=stop 11=found 12=place -/
def t_overlaid_l1 (c_strips_of : Nat) (c_moved_strips : Nat) (c_still_strips : Nat) (c_span : Nat) (c_both_of : Nat) (c_grid_of : Nat) : List Sm := [.mut 11 [] .app (.a (.e (.call c_both_of [(.dget (.var 7) (.var 12) none), (.dget (.var 8) (.var 12) none)]))),
  .kill [12]]
def t_overlaid (c_strips_of : Nat) (c_moved_strips : Nat) (c_still_strips : Nat) (c_span : Nat) (c_both_of : Nat) (c_grid_of : Nat) : List Sm := [.asg (.t [(.v 2), (.v 3), (.v 4), (.v 5)]) (.var 1),
  .asg (.v 6) (.call c_strips_of [(.var 0), (.var 2)]),
  .asg (.v 7) (.call c_moved_strips [(.var 6), (.var 1)]),
  .asg (.v 8) (.call c_still_strips [(.var 6), (.var 1)]),
  .asg (.t [(.v 9), (.v 10)]) (.call c_span [(.blt .len [(.var 6)]), (.var 3), (.var 4)]),
  .own 11 (.dn (.lst [])),
  .for_ (.v 12) .rng2 [(.var 9), (.var 10)] (t_overlaid_l1 c_strips_of c_moved_strips c_still_strips c_span c_both_of c_grid_of),
  .freeze 11,
  .ret (.call c_grid_of [(.var 11), (.var 2)])]
abbrev S_overlaid (P : Prog) (f : Nat) : Prop := ∀ n (p : Pk) (c : Nat) (x : Fold) M, p ≠ [] → RectG p c → p.length ≤ 1000 → c ≤ 1000 → x.Ok (strips x.v p).length → callN P (n + 4) f [encPk p, x.enc] M = .ok (.z, encG encPr (strips x.v (ovl x (strips x.v p)))) M
theorem strips_rect {p : Pk} {c : Nat} (v : Bool) (hp : p ≠ []) (h : RectG p c) : RectG (strips v p) (if v then p.length else c) ∧ (strips v p).length = if v then c else p.length := by
  cases v
  · exact ⟨h, rfl⟩
  · exact ⟨cols_rect p, cols_len h hp⟩
theorem p_overlaid {P : Prog} {f a b c d e g : Nat} (hP : P.fns[f]? = some ⟨2, 13, t_overlaid a b c d e g⟩) (h1 : S_strips_of P a) (h2 : S_moved P b) (h3 : S_still P c) (h4 : S_span P d) (h5 : S_both P e) (h6 : S_strips_of P g) : S_overlaid P f := by
  intro n p w x M hp hr hl hw ok
  rw [callN_eq hP rfl]
  obtain ⟨r1, r2⟩ := strips_rect x.v hp hr
  have hn : (strips x.v p).length ≤ 1000 := by rw [r2]; split <;> omega
  have hc : (if x.v = true then p.length else w) ≤ 16777216 := by split <;> omega
  have e1 := h1 encSt (n + 2) p w x.v M hp (by omega) hr
  have e2 := h2 n (strips x.v p) x M hn
  have e3 := h3 (n + 2) (strips x.v p) x M hn
  have e4 := h4 (n + 2) (strips x.v p).length x.at_ x.hi M (by omega) (by have := ok.hi; omega)
  have hne : strips x.v p ≠ [] := fun z => by have := ok.hi; rw [z] at this; simp at this
  have np := numP_pos ok
  have hov : ovl x (strips x.v p) ≠ [] := fun z => by
    have : (ovl x (strips x.v p)).length = 0 := by rw [z]; rfl
    simp only [ovl, List.length_map, List.length_range] at this
    omega
  have e6 := h6 encPr (n + 2) (ovl x (strips x.v p)) _ x.v M hov hc (ovl_rect ok r1)
  have eG : encG encSt p = encPk p := rfl
  have eG2 : encG encSt (strips x.v p) = encPk (strips x.v p) := rfl
  rw [eG, eG2] at e1
  generalize hS : strips x.v p = S at *
  have bnd : -16777216 ≤ fst_ S.length x.at_ x.hi ∧ fst_ S.length x.at_ x.hi ≤ 16777216 ∧ -16777216 ≤ stp_ S.length x.at_ x.hi ∧ stp_ S.length x.at_ x.hi - fst_ S.length x.at_ x.hi ≤ 16777216 := by
    have := ok.hi
    cases x.hi
    · simp only [fst_, stp_, Bool.false_eq_true, if_false]; omega
    · simp only [fst_, stp_, if_true]; omega
  have lp := forL_app0 (M := M) (body := forB (cfgN P (n + 3)) (.v 12) (t_overlaid_l1 a b c d e g)) (enc := fun i : Nat => D.int (fst_ S.length x.at_ x.hi + (i : Nat)))
    (fun acc => [.fz (encPk p), .fz x.enc, .fz (.str (lnS x.v)), .fz (.int x.at_), .fz (.str (ptS x.hi)), .fz (.str (wyS x.ov)), .fz (encPk S), .fz (.dic false ((mvS x S).map (enK encRow))), .fz (.dic false ((stlS x S).map (enK encRow))),
      .fz (.int (fst_ S.length x.at_ x.hi)), .fz (.int (stp_ S.length x.at_ x.hi)), .ow (.s .z) (.lst acc), .un])
    (g := fun i => .lst ((bothP (mvAt x S (fst_ S.length x.at_ x.hi + (i : Nat))) (stAt x S (fst_ S.length x.at_ x.hi + (i : Nat)))).map encPr)) (items := List.range (numP x S)) (by simp; omega) fun acc i hi ha => by
      have nn := some_at ok (List.mem_range.mp hi)
      have eb := h5 (n + 2) _ _ M nn
      have o1 : ∀ q : Option Strip, (q.map encRow).getD .non = encRO q := fun q => by cases q <;> rfl
      simp! only [forB, t_overlaid_l1, mv_look, st_look, o1, eb]
  have eN : rngF (fst_ S.length x.at_ x.hi) (stp_ S.length x.at_ x.hi - fst_ S.length x.at_ x.hi).toNat = (List.range (numP x S)).map fun i : Nat => D.int (fst_ S.length x.at_ x.hi + (i : Nat)) := rfl
  have eO : D.lst ((List.range (numP x S)).map fun i => D.lst ((bothP (mvAt x S (fst_ S.length x.at_ x.hi + (i : Nat))) (stAt x S (fst_ S.length x.at_ x.hi + (i : Nat)))).map encPr)) = encG encPr (ovl x S) := by
    unfold encG ovl; rw [List.map_map]; rfl
  have eL : bltD .len [encPk S] = some (.int S.length) := by unfold encPk; rw [f_len, List.length_map]
  simp only [Fold.enc] at e2 e3 lp
  simp! only [t_overlaid, Fold.enc, e1, e2, e3, e4, eL, eN, lp, eO, e6]
/- laid_together(moved, still, way): 0=moved 1=still 2=way -/
def t_laid_together : List Sm := [.ifs (.isN (.var 0) false) [.ret (.var 1)] [],
  .ifs (.isN (.var 1) false) [.ret (.var 0)] [],
  .ifs (.cmp .eq (.var 2) (.lit (.str "over"))) [.ret (.bin .add (.var 0) (.var 1))] [],
  .ret (.bin .add (.var 1) (.var 0))]
def layC (o : Bool) : PairC → Stk
  | (none, none) => []
  | (none, some s) => s
  | (some m, none) => m
  | (some m, some s) => if o then m ++ s else s ++ m
/-- a pair that can be laid together -/
def okPr (q : PairC) : Prop := match q with
  | (none, none) => False
  | (some m, some s) => m.length + s.length ≤ 16777216
  | _ => True
abbrev S_lay (P : Prog) (f : Nat) : Prop := ∀ n (q : PairC) (o : Bool) M, okPr q → callN P (n + 1) f [encO q.1, encO q.2, .str (wyS o)] M = .ok (.z, encSt (layC o q)) M
theorem p_lay {P : Prog} {f : Nat} (hP : P.fns[f]? = some ⟨3, 3, t_laid_together⟩) : S_lay P f := by
  intro n q o M h
  rw [callN_eq hP rfl]
  match q, h with
  | (none, some s), _ => simp! only [t_laid_together, encO, encSt, layC]
  | (some m, none), _ => simp! only [t_laid_together, encO, encSt, layC]
  | (some m, some s), h =>
    have h : m.length + s.length ≤ 16777216 := h
    cases o <;> simp! only [t_laid_together, encO, encSt, layC, wyS, List.map_append, b_addl]
/- folded(packet, fold): 0=packet 1=fold 2=row 3=moved 4=still -/
def t_folded (c_check_fold : Nat) (c_overlaid : Nat) (c_laid_together : Nat) : List Sm := [.expr (.call c_check_fold [(.var 0), (.var 1)]),
  .ret (.comp (.comp (.call c_laid_together [(.var 3), (.var 4), (.ix (.var 1) (.lit (.int 3)))]) (.t [(.v 3), (.v 4)]) .seq [(.var 2)] [] [3, 4]) (.v 2) .seq [(.call c_overlaid [(.var 0), (.var 1)])] [] [2])]
def foldP (x : Fold) (p : Pk) : Pk := (strips x.v (ovl x (strips x.v p))).map fun r => r.map (layC x.ov)
abbrev S_folded (P : Prog) (f : Nat) : Prop := ∀ n (p : Pk) (c : Nat) (x : Fold) M, p ≠ [] → RectG p c → p.length ≤ 1000 → c ≤ 1000 → x.Ok (strips x.v p).length → (∀ r ∈ strips x.v (ovl x (strips x.v p)), ∀ q ∈ r, okPr q) →
  callN P (n + 5) f [encPk p, x.enc] M = .ok (.z, encPk (foldP x p)) M
theorem p_folded {P : Prog} {f a b c : Nat} (hP : P.fns[f]? = some ⟨2, 5, t_folded a b c⟩) (h1 : S_check_fold P a) (h2 : S_overlaid P b) (h3 : S_lay P c) : S_folded P f := by
  intro n p w x M hp hr hl hw ok hq
  rw [callN_eq hP rfl]
  have e1 := h1 n p x M hp ok.lo ok.hi
  have e2 := h2 n p w x M hp hr hl hw ok
  have e4 : ∀ (q : PairC) M, q ∈ (strips x.v (ovl x (strips x.v p))).flatten → callN P (n + 4) c [encO q.1, encO q.2, .str (wyS x.ov)] M = .ok (.z, encSt (layC x.ov q)) M := fun q M h => by
    obtain ⟨r, h1, h2⟩ := List.mem_flatten.mp h
    exact h3 (n + 3) q x.ov M (hq r h1 q h2)
  simp only [Fold.enc] at e1 e2
  simp! only [t_folded, Fold.enc, e1, e2, encG, encPr, e4]
  simp only [foldP, encPk, encRow, List.map_map, Function.comp_def]
/-! ### a fold in plain terms -/
def lay2 (o : Bool) (m s : Stk) : Stk := if o then m ++ s else s ++ m
def zl {α : Type} (g : α → α → α) : List α → List α → List α
  | [], ss => ss
  | ms, [] => ms
  | m :: ms, s :: ss => g m s :: zl g ms ss
theorem zl_nil {α : Type} {g : α → α → α} (ms : List α) : zl g ms [] = ms := by cases ms <;> rfl
theorem zl_get {α : Type} {g : α → α → α} : ∀ (a b : List α) (i : Nat), (zl g a b)[i]? = match a[i]?, b[i]? with
    | some x, some y => some (g x y)
    | some x, none => some x
    | none, y => y
  | [], ss, i => by simp [zl]
  | m :: ms, [], i => by
    rw [zl_nil]
    simp only [List.getElem?_nil]
    cases (m :: ms)[i]? <;> rfl
  | m :: ms, s :: ss, 0 => rfl
  | m :: ms, s :: ss, i + 1 => by
    simp only [zl, List.getElem?_cons_succ]
    exact zl_get ms ss i
theorem zl_len {α : Type} {g : α → α → α} : ∀ (a b : List α), (zl g a b).length = max a.length b.length
  | [], ss => by simp [zl]
  | m :: ms, [] => by rw [zl_nil]; simp
  | m :: ms, s :: ss => by simp only [zl, List.length_cons, zl_len ms ss]; omega
/-- the strips behind a fold -/
def foldS (hi ov : Bool) (turn : Stk → Stk) (a : Nat) (S : List Strip) : List Strip :=
  if hi then (zl (List.zipWith (lay2 ov)) ((S.drop a).map (List.map turn)) (S.take a).reverse).reverse
  else zl (List.zipWith (lay2 ov)) ((S.take a).reverse.map (List.map turn)) (S.drop a)
def ovlL (x : Fold) (S : List Strip) : List Strip := (ovl x S).map fun r => r.map (layC x.ov)
theorem zip_lay (o : Bool) : ∀ m s : Strip, (m.zip s).map (layC o ∘ fun p => (some p.1, some p.2)) = List.zipWith (lay2 o) m s
  | [], s => by simp
  | m :: ms, [] => by simp
  | m :: ms, s :: ss => by
    rw [List.zip_cons_cons, List.map_cons, List.zipWith_cons_cons, zip_lay o ms ss]
    rfl
theorem both_lay (o : Bool) (m s : Option Strip) : (bothP m s).map (layC o) = match m, s with
    | some m, some s => List.zipWith (lay2 o) m s
    | some m, none => m
    | none, some s => s
    | none, none => [] := by
  cases m <;> cases s
  · rfl
  · simp [bothP, layC, Function.comp_def]
  · simp [bothP, layC, Function.comp_def]
  · simp only [bothP, List.map_map]
    exact zip_lay o _ _
theorem getD_some {S : List Strip} {k : Nat} (h : k < S.length) : S[k]? = some (S.getD k default) := by
  rw [List.getElem?_eq_getElem h, List.getD_eq_getElem?_getD, List.getElem?_eq_getElem h]; rfl
theorem take_rev {S : List Strip} {a i : Nat} (ha : a ≤ S.length) : (S.take a).reverse[i]? = if i < a then some (S.getD (a - 1 - i) default) else none := by
  split
  · rename_i h
    rw [List.getElem?_reverse (by simp; omega), List.length_take, Nat.min_eq_left ha, List.getElem?_take]
    rw [if_pos (by omega)]
    exact getD_some (by omega)
  · rename_i h
    exact List.getElem?_eq_none (by simp; omega)
theorem drop_get {S : List Strip} {a i : Nat} : (S.drop a)[i]? = if i < S.length - a then some (S.getD (a + i) default) else none := by
  rw [List.getElem?_drop]
  split
  · exact getD_some (by omega)
  · exact List.getElem?_eq_none (by omega)
theorem ovlL_eq {x : Fold} {S : List Strip} (ok : x.Ok S.length) : ovlL x S = foldS x.hi x.ov (ovS x.v) x.at_ S := by
  have h1 := ok.lo
  have h2 := ok.hi
  unfold ovlL ovl foldS
  rw [List.map_map]
  cases hh : x.hi
  · rw [if_neg (by decide)]
    apply List.ext_getElem?
    intro i
    rw [zl_get, List.getElem?_map, List.getElem?_map, take_rev (by omega), drop_get]
    have hn : numP x S = max (S.length - x.at_) x.at_ := by
      unfold numP; rw [hh]; simp only [fst_, stp_, Bool.false_eq_true, if_false]; omega
    by_cases hi : i < numP x S
    · rw [List.getElem?_range hi]
      simp only [Option.map_some, Function.comp_apply, both_lay]
      have em : mvAt x S (fst_ S.length x.at_ false + (i : Nat)) = if i < x.at_ then some ((S.getD (x.at_ - 1 - i) default).map (ovS x.v)) else none := by
        unfold mvAt
        simp only [fst_, Bool.false_eq_true, if_false, hh, mvB]
        by_cases h : i < x.at_
        · have e : (2 * (x.at_ : Int) - 1 - ((x.at_ : Int) + (i : Nat))).toNat = x.at_ - 1 - i := by omega
          rw [e, if_pos h, if_pos ⟨by omega, by omega, by simp; omega⟩]
        · rw [if_neg h, if_neg (by omega)]
      have es : stAt x S (fst_ S.length x.at_ false + (i : Nat)) = if i < S.length - x.at_ then some (S.getD (x.at_ + i) default) else none := by
        unfold stAt
        simp only [fst_, Bool.false_eq_true, if_false, hh, mvB]
        by_cases h : i < S.length - x.at_
        · have e : ((x.at_ : Int) + (i : Nat)).toNat = x.at_ + i := by omega
          rw [e, if_pos h, if_pos ⟨by omega, by omega, by simp⟩]
        · rw [if_neg h, if_neg (by omega)]
      rw [em, es]
      rw [hn] at hi
      by_cases c1 : i < x.at_ <;> by_cases c2 : i < S.length - x.at_
      · simp only [if_pos c1, if_pos c2, Option.map_some]
      · simp only [if_pos c1, if_neg c2, Option.map_some]
      · simp only [if_neg c1, if_pos c2, Option.map_none]
      · omega
    · rw [List.getElem?_eq_none (by simpa using Nat.le_of_not_lt hi)]
      rw [hn] at hi
      rw [if_neg (by omega), if_neg (by omega)]; rfl
  · rw [if_pos rfl]
    have hn : numP x S = max (S.length - x.at_) x.at_ := by
      unfold numP; rw [hh]; simp only [fst_, stp_, if_true]; omega
    have hl : (zl (List.zipWith (lay2 x.ov)) ((S.drop x.at_).map (List.map (ovS x.v))) (S.take x.at_).reverse).length = numP x S := by
      rw [zl_len, hn]; simp; omega
    apply List.ext_getElem?
    intro i
    by_cases hi : i < numP x S
    · rw [List.getElem?_reverse (by rw [hl]; exact hi), hl, zl_get, List.getElem?_map, List.getElem?_map, take_rev (by omega), drop_get, List.getElem?_range hi]
      simp only [Option.map_some, Function.comp_apply, both_lay]
      have ef : (fst_ S.length x.at_ true + (i : Nat) : Int) = x.at_ - 1 - ((numP x S - 1 - i : Nat) : Int) := by
        simp only [fst_, if_true]; omega
      generalize hj : numP x S - 1 - i = j at ef
      have hj2 : j < numP x S := by omega
      rw [ef]
      have em : mvAt x S ((x.at_ : Int) - 1 - (j : Nat)) = if j < S.length - x.at_ then some ((S.getD (x.at_ + j) default).map (ovS x.v)) else none := by
        unfold mvAt
        simp only [hh, mvB]
        by_cases h : j < S.length - x.at_
        · have e : (2 * (x.at_ : Int) - 1 - ((x.at_ : Int) - 1 - (j : Nat))).toNat = x.at_ + j := by omega
          rw [e, if_pos h, if_pos ⟨by omega, by omega, by simp⟩]
        · rw [if_neg h, if_neg (by omega)]
      have es : stAt x S ((x.at_ : Int) - 1 - (j : Nat)) = if j < x.at_ then some (S.getD (x.at_ - 1 - j) default) else none := by
        unfold stAt
        simp only [hh, mvB]
        by_cases h : j < x.at_
        · have e : ((x.at_ : Int) - 1 - (j : Nat)).toNat = x.at_ - 1 - j := by omega
          rw [e, if_pos h, if_pos ⟨by omega, by omega, by simp; omega⟩]
        · rw [if_neg h, if_neg (by omega)]
      rw [em, es]
      rw [hn] at hj2
      by_cases c1 : j < x.at_ <;> by_cases c2 : j < S.length - x.at_
      · simp only [if_pos c1, if_pos c2, Option.map_some]
      · simp only [if_pos c1, if_neg c2, Option.map_none]
      · simp only [if_neg c1, if_pos c2, Option.map_some]
      · omega
    · rw [List.getElem?_eq_none (by simpa using Nat.le_of_not_lt hi), List.getElem?_eq_none (by rw [List.length_reverse, hl]; omega)]
theorem map_getD {r : List PairC} {o : Bool} {j : Nat} (h : j < r.length) : layC o (r.getD j default) = (r.map (layC o)).getD j default := by
  rw [List.getD_eq_getElem?_getD, List.getD_eq_getElem?_getD, List.getElem?_map, List.getElem?_eq_getElem h]; rfl
/-- the packet behind a fold -/
theorem foldP_eq {x : Fold} {p : Pk} {c : Nat} (hp : p ≠ []) (hr : RectG p c) (ok : x.Ok (strips x.v p).length) : foldP x p = strips x.v (foldS x.hi x.ov (ovS x.v) x.at_ (strips x.v p)) := by
  have ro := ovl_rect ok (strips_rect x.v hp hr).1
  rw [← ovlL_eq ok]
  unfold foldP ovlL
  generalize ovl x (strips x.v p) = O at *
  generalize (if x.v = true then p.length else c) = k at ro
  cases hv : x.v
  · rfl
  · simp only [strips, if_true, cols, List.map_map]
    have e0 : ((O.map fun r => r.map (layC x.ov)).getD 0 []).length = (O.getD 0 []).length := by cases O <;> simp
    rw [e0]
    apply List.map_congr_left
    intro j hj
    simp only [Function.comp_apply, List.map_map]
    apply List.map_congr_left
    intro r hr'
    simp only [Function.comp_apply]
    refine map_getD ?_
    rw [ro r hr']
    cases O with
    | nil => cases hr'
    | cons a O =>
      have := ro a List.mem_cons_self
      simpa [this] using List.mem_range.mp hj
end VL

/-! L5: folds one after another -/
namespace VL
open PySem
structure Shape (p : Pk) (r c : Nat) : Prop where
  len : p.length = r
  rect : RectG p c
  r1 : 1 ≤ r
  c1 : 1 ≤ c
theorem Shape.ne {p : Pk} {r c : Nat} (h : Shape p r c) : p ≠ [] := fun e => by
  have := h.len; rw [e] at this; have := h.r1; simp at *; omega
theorem Shape.strips {p : Pk} {r c : Nat} (h : Shape p r c) (v : Bool) : (strips v p).length = (if v then c else r) ∧ RectG (strips v p) (if v then r else c) := by
  cases v
  · exact ⟨h.len, h.rect⟩
  · exact ⟨cols_len h.rect h.ne, by have := cols_rect p; rw [h.len] at this; exact this⟩
theorem rect_zl {o : Bool} {c : Nat} : ∀ {A B : List Strip}, RectG A c → RectG B c → RectG (zl (List.zipWith (lay2 o)) A B) c
  | [], B, _, hb => by simpa [zl] using hb
  | a :: A, [], ha, _ => by rw [zl_nil]; exact ha
  | a :: A, b :: B, ha, hb => by
    intro r hr
    simp only [zl, List.mem_cons] at hr
    rcases hr with rfl | hr
    · rw [List.length_zipWith, ha a List.mem_cons_self, hb b List.mem_cons_self, Nat.min_self]
    · exact rect_zl (fun x hx => ha x (List.mem_cons_of_mem _ hx)) (fun x hx => hb x (List.mem_cons_of_mem _ hx)) r hr
theorem rect_map {t : Stk → Stk} {c : Nat} {A : List Strip} (h : RectG A c) : RectG (A.map (List.map t)) c := fun r hr => by
  obtain ⟨x, hx, rfl⟩ := List.mem_map.mp hr
  rw [List.length_map]; exact h x hx
theorem rect_rev {c : Nat} {A : List Strip} (h : RectG A c) : RectG A.reverse c := fun r hr => h r (List.mem_reverse.mp hr)
theorem rect_take {c k : Nat} {A : List Strip} (h : RectG A c) : RectG (A.take k) c := fun r hr => h r (List.mem_of_mem_take hr)
theorem rect_drop {c k : Nat} {A : List Strip} (h : RectG A c) : RectG (A.drop k) c := fun r hr => h r (List.mem_of_mem_drop hr)
theorem foldS_rect {hi ov : Bool} {t : Stk → Stk} {a c : Nat} {S : List Strip} (h : RectG S c) : RectG (foldS hi ov t a S) c := by
  unfold foldS
  split
  · exact rect_rev (rect_zl (rect_map (rect_drop h)) (rect_rev (rect_take h)))
  · exact rect_zl (rect_map (rect_rev (rect_take h))) (rect_drop h)
theorem foldS_len {hi ov : Bool} {t : Stk → Stk} {a : Nat} {S : List Strip} (h : a ≤ S.length) : (foldS hi ov t a S).length = max a (S.length - a) := by
  unfold foldS
  split
  · rw [List.length_reverse, zl_len]; simp; omega
  · rw [zl_len]; simp; omega
def nxR (f : Fold) (r : Nat) : Nat := if f.v then r else max f.at_ (r - f.at_)
def nxC (f : Fold) (c : Nat) : Nat := if f.v then max f.at_ (c - f.at_) else c
def OkF (f : Fold) (r c : Nat) : Prop := f.Ok (if f.v then c else r)
theorem OkF.strips {f : Fold} {p : Pk} {r c : Nat} (ok : OkF f r c) (h : Shape p r c) : f.Ok (strips f.v p).length := by
  rw [(h.strips f.v).1]; exact ok
theorem foldP_shape {f : Fold} {p : Pk} {r c : Nat} (h : Shape p r c) (ok : OkF f r c) : Shape (foldP f p) (nxR f r) (nxC f c) := by
  have ok' := ok.strips h
  obtain ⟨s1, s2⟩ := h.strips f.v
  have o1 := ok.lo
  have o2 := ok.hi
  rw [foldP_eq h.ne h.rect ok']
  have fr := foldS_rect (hi := f.hi) (ov := f.ov) (t := ovS f.v) (a := f.at_) s2
  have fl := foldS_len (hi := f.hi) (ov := f.ov) (t := ovS f.v) (a := f.at_) (S := strips f.v p) (by rw [s1]; omega)
  rw [s1] at fl
  generalize foldS f.hi f.ov (ovS f.v) f.at_ (strips f.v p) = F at *
  unfold nxR nxC
  have h1 := h.r1
  have h2 := h.c1
  cases hv : f.v
  · rw [hv] at fr fl o2
    simp only [Bool.false_eq_true, if_false] at fr fl o2 ⊢
    exact ⟨fl, fr, by omega, h2⟩
  · rw [hv] at fr fl o2
    simp only [if_true] at fr fl o2 ⊢
    have hne : F ≠ [] := fun e => by rw [e] at fl; simp at fl; omega
    refine ⟨cols_len fr hne, by have := cols_rect F; rw [fl] at this; exact this, h1, by omega⟩
/-! ### what is in a packet -/
def tot (w : Lay → Nat) (S : List Strip) : Nat := (S.map fun r => (r.map fun s => (s.map w).sum).sum).sum
def totR (w : Lay → Nat) (r : Strip) : Nat := (r.map fun s => (s.map w).sum).sum
theorem tot_cons (w : Lay → Nat) (r : Strip) (S : List Strip) : tot w (r :: S) = totR w r + tot w S := by simp [tot, totR]
theorem tot_nil (w : Lay → Nat) : tot w [] = 0 := rfl
theorem tot_append (w : Lay → Nat) : ∀ A B : List Strip, tot w (A ++ B) = tot w A + tot w B
  | [], B => by simp [tot]
  | a :: A, B => by rw [List.cons_append, tot_cons, tot_cons, tot_append w A B]; omega
theorem tot_rev (w : Lay → Nat) : ∀ A : List Strip, tot w A.reverse = tot w A
  | [] => rfl
  | a :: A => by rw [List.reverse_cons, tot_append, tot_rev w A, tot_cons, tot_cons, tot_nil]; omega
theorem totR_zip (w : Lay → Nat) (o : Bool) : ∀ (m s : Strip), m.length = s.length → totR w (List.zipWith (lay2 o) m s) = totR w m + totR w s
  | [], [], _ => rfl
  | m :: ms, s :: ss, h => by
    have ih := totR_zip w o ms ss (by simpa using h)
    simp only [totR, List.zipWith_cons_cons, List.map_cons, List.sum_cons] at ih ⊢
    rw [ih]
    have : ((lay2 o m s).map w).sum = (m.map w).sum + (s.map w).sum := by
      unfold lay2; split <;> simp [List.sum_append]; omega
    omega
  | [], _ :: _, h => by simp at h
  | _ :: _, [], h => by simp at h
theorem tot_zl (w : Lay → Nat) (o : Bool) {c : Nat} : ∀ {A B : List Strip}, RectG A c → RectG B c → tot w (zl (List.zipWith (lay2 o)) A B) = tot w A + tot w B
  | [], B, _, _ => by simp [zl, tot]
  | a :: A, [], _, _ => by rw [zl_nil, tot_nil]; rfl
  | a :: A, b :: B, ha, hb => by
    simp only [zl]
    rw [tot_cons, tot_cons, tot_cons, tot_zl w o (fun x hx => ha x (List.mem_cons_of_mem _ hx)) (fun x hx => hb x (List.mem_cons_of_mem _ hx)), totR_zip w o a b (by rw [ha a List.mem_cons_self, hb b List.mem_cons_self])]
    omega
theorem sum_reverse (l : List Nat) : l.reverse.sum = l.sum := by
  induction l with
  | nil => rfl
  | cons a l ih => rw [List.reverse_cons, List.sum_append, ih]; simp; omega
/-- what turning does not touch -/
def TurnW (w : Lay → Nat) : Prop := ∀ l : Lay, w l.ov = w l ∧ w l.lv = w l ∧ w l.sp = w l
theorem tot_turn {w : Lay → Nat} (hw : TurnW w) (v : Bool) (A : List Strip) : tot w (A.map (List.map (ovS v))) = tot w A := by
  have one : ∀ s : Stk, ((ovS v s).map w).sum = (s.map w).sum := fun s => by
    have e : ((ovS v s).map w) = (s.map w).reverse := by
      cases v
      · simp only [ovS, Bool.false_eq_true, if_false, stH, List.map_map, List.map_reverse]
        congr 1
        exact List.map_congr_left fun l _ => (hw l).2.1
      · simp only [ovS, if_true, stV, List.map_map, List.map_reverse]
        congr 1
        exact List.map_congr_left fun l _ => (hw l).1
    rw [e, sum_reverse]
  unfold tot
  simp only [List.map_map, Function.comp_def, one]
theorem sum_add {α : Type} (f g : α → Nat) (l : List α) : (l.map fun x => f x + g x).sum = (l.map f).sum + (l.map g).sum := by
  induction l with
  | nil => rfl
  | cons a l ih => simp only [List.map_cons, List.sum_cons, ih]; omega
theorem sum_cols (f : Stk → Nat) (c : Nat) : ∀ p : List Strip, RectG p c → ((List.range c).map fun j => (p.map fun r => f (r.getD j default)).sum).sum = (p.map fun r => (r.map f).sum).sum
  | [], _ => by
    simp only [List.map_nil, List.sum_nil]
    induction List.range c with
    | nil => rfl
    | cons a l ih => simpa using ih
  | r :: p, h => by
    have ih := sum_cols f c p fun x hx => h x (List.mem_cons_of_mem _ hx)
    simp only [List.map_cons, List.sum_cons]
    rw [sum_add, ih]
    congr 1
    have hr := h r List.mem_cons_self
    subst hr
    rw [rg_id f default r]
theorem tot_cols (w : Lay → Nat) {p : List Strip} {c : Nat} (h : RectG p c) (hp : p ≠ []) : tot w (cols p) = tot w p := by
  have e : (p.getD 0 []).length = c := by
    cases p with
    | nil => exact absurd rfl hp
    | cons r p => exact h r List.mem_cons_self
  unfold tot cols
  rw [e, List.map_map]
  have := sum_cols (fun s => (s.map w).sum) c p h
  rw [← this]
  congr 1
  apply List.map_congr_left
  intro j _
  simp only [Function.comp_apply, List.map_map, Function.comp_def]
theorem tot_foldS {w : Lay → Nat} (hw : TurnW w) {hi ov v : Bool} {a c : Nat} {S : List Strip} (h : RectG S c) : tot w (foldS hi ov (ovS v) a S) = tot w S := by
  have e : tot w (S.take a) + tot w (S.drop a) = tot w S := by rw [← tot_append, List.take_append_drop]
  unfold foldS
  split
  · rw [tot_rev, tot_zl w ov (rect_map (rect_drop h)) (rect_rev (rect_take h)), tot_turn hw, tot_rev]; omega
  · rw [tot_zl w ov (rect_map (rect_rev (rect_take h))) (rect_drop h), tot_turn hw, tot_rev]; omega
theorem tot_strips (w : Lay → Nat) {p : Pk} {r c : Nat} (h : Shape p r c) (v : Bool) : tot w (strips v p) = tot w p := by
  cases v
  · rfl
  · exact tot_cols w h.rect h.ne
theorem tot_foldP {w : Lay → Nat} (hw : TurnW w) {f : Fold} {p : Pk} {r c : Nat} (h : Shape p r c) (ok : OkF f r c) : tot w (foldP f p) = tot w p := by
  have ok' := ok.strips h
  obtain ⟨s1, s2⟩ := h.strips f.v
  rw [foldP_eq h.ne h.rect ok']
  have fr := foldS_rect (hi := f.hi) (ov := f.ov) (t := ovS f.v) (a := f.at_) s2
  have fl := foldS_len (hi := f.hi) (ov := f.ov) (t := ovS f.v) (a := f.at_) (S := strips f.v p) (by rw [s1]; have := ok.hi; omega)
  have ft := tot_foldS hw (hi := f.hi) (ov := f.ov) (v := f.v) (a := f.at_) s2
  rw [tot_strips w h] at ft
  rw [← ft]
  have hne : foldS f.hi f.ov (ovS f.v) f.at_ (strips f.v p) ≠ [] := fun e => by
    rw [e] at fl; have := ok.lo; simp at fl; omega
  generalize foldS f.hi f.ov (ovS f.v) f.at_ (strips f.v p) = F at *
  cases hv : f.v
  · rfl
  · exact tot_cols w fr hne
theorem le_sum : ∀ {l : List Nat} {x : Nat}, x ∈ l → x ≤ l.sum
  | a :: l, x, h => by
    rw [List.sum_cons]
    rcases List.mem_cons.mp h with rfl | h
    · omega
    · have := le_sum h; omega
theorem tot_mem (w : Lay → Nat) {S : List Strip} {r : Strip} {s : Stk} (hr : r ∈ S) (hs : s ∈ r) : (s.map w).sum ≤ tot w S := by
  have h1 : (s.map w).sum ≤ totR w r := by
    unfold totR
    exact le_sum (List.mem_map.mpr ⟨s, hs, rfl⟩)
  have h2 : totR w r ≤ tot w S := le_sum (List.mem_map.mpr ⟨r, hr, rfl⟩)
  omega
/-- how many layers -/
abbrev cnt (p : Pk) : Nat := tot (fun _ => 1) p
theorem sum_one (s : Stk) : (s.map fun _ => 1).sum = s.length := by
  induction s with
  | nil => rfl
  | cons a s ih => simp only [List.map_cons, List.sum_cons, List.length_cons, ih]; omega
theorem cnt_mem {p : Pk} {r : Strip} {s : Stk} (hr : r ∈ p) (hs : s ∈ r) : s.length ≤ cnt p := by
  have := tot_mem (fun _ => 1) hr hs
  rwa [sum_one] at this
theorem ovS_len (v : Bool) (s : Stk) : (ovS v s).length = s.length := by cases v <;> simp [ovS, stV, stH]
theorem mem_cols {α : Type} [Inhabited α] {p : List (List α)} {c : Nat} (h : RectG p c) {r : List α} (hr : r ∈ cols p) {q : α} (hq : q ∈ r) : ∃ r' ∈ p, q ∈ r' := by
  simp only [cols, List.mem_map, List.mem_range] at hr
  obtain ⟨j, hj, rfl⟩ := hr
  obtain ⟨r', hr', rfl⟩ := List.mem_map.mp hq
  refine ⟨r', hr', mem_getD ?_⟩
  rw [h r' hr']
  cases p with
  | nil => cases hr'
  | cons a p => simpa [h a List.mem_cons_self] using hj
theorem ovl_ok {x : Fold} {S : List Strip} {c : Nat} (ok : x.Ok S.length) (hr : RectG S c) (hc : cnt S ≤ 8000000) : ∀ r ∈ ovl x S, ∀ q ∈ r, okPr q := by
  intro r hr' q hq
  obtain ⟨i, hi, rfl⟩ := List.mem_map.mp hr'
  have bm : ∀ {p : Int} {m : Strip}, mvAt x S p = some m → ∀ s ∈ m, s.length ≤ 8000000 := fun {p m} e s hs => by
    unfold mvAt at e
    split at e
    · cases e
      obtain ⟨s0, h0, rfl⟩ := List.mem_map.mp hs
      rw [ovS_len]
      exact Nat.le_trans (cnt_mem (mem_getD (by omega)) h0) hc
    · cases e
  have bs : ∀ {p : Int} {m : Strip}, stAt x S p = some m → ∀ s ∈ m, s.length ≤ 8000000 := fun {p m} e s hs => by
    unfold stAt at e
    split at e
    · cases e
      exact Nat.le_trans (cnt_mem (mem_getD (by omega)) hs) hc
    · cases e
  cases e1 : mvAt x S (fst_ S.length x.at_ x.hi + (i : Nat)) with
  | none =>
    cases e2 : stAt x S (fst_ S.length x.at_ x.hi + (i : Nat)) with
    | none => rw [e1, e2] at hq; cases hq
    | some s =>
      rw [e1, e2] at hq
      obtain ⟨y, _, rfl⟩ := List.mem_map.mp hq
      trivial
  | some m =>
    cases e2 : stAt x S (fst_ S.length x.at_ x.hi + (i : Nat)) with
    | none =>
      rw [e1, e2] at hq
      obtain ⟨y, _, rfl⟩ := List.mem_map.mp hq
      trivial
    | some s =>
      rw [e1, e2] at hq
      obtain ⟨y, hy, rfl⟩ := List.mem_map.mp hq
      have h1 := bm e1 _ (List.of_mem_zip hy).1
      have h2 := bs e2 _ (List.of_mem_zip hy).2
      show y.1.length + y.2.length ≤ 16777216
      omega
abbrev S_folded2 (P : Prog) (f : Nat) : Prop := ∀ n (p : Pk) (r c : Nat) (x : Fold) M, Shape p r c → r ≤ 1000 → c ≤ 1000 → OkF x r c → cnt p ≤ 8000000 → callN P (n + 5) f [encPk p, x.enc] M = .ok (.z, encPk (foldP x p)) M
theorem S_folded2.of {P : Prog} {f : Nat} (h : S_folded P f) : S_folded2 P f := fun n p r c x M hp hr hc ok ht => by
  have ok' := ok.strips hp
  obtain ⟨s1, s2⟩ := hp.strips x.v
  have cs : cnt (strips x.v p) ≤ 8000000 := by rw [cnt, tot_strips _ hp]; exact ht
  have oo := ovl_ok ok' s2 cs
  refine h n p c x M hp.ne hp.rect (by rw [hp.len]; exact hr) hc ok' fun r hr q hq => ?_
  cases hv : x.v
  · rw [hv] at hr; exact oo r (by rw [hv]; exact hr) q hq
  · rw [hv] at hr
    obtain ⟨r', h1, h2⟩ := mem_cols (ovl_rect ok' s2) (by rw [hv]; exact hr) hq
    exact oo r' h1 q h2
/-- folds one after another, from rows and columns to rows and columns -/
def lead : Nat → Nat → List Fold → Nat → Nat → Prop
  | r, c, [], r', c' => r = r' ∧ c = c'
  | r, c, f :: fs, r', c' => OkF f r c ∧ lead (nxR f r) (nxC f c) fs r' c'
theorem lead_snoc : ∀ {fs : List Fold} {r c r' c' : Nat} {f : Fold}, lead r c fs r' c' → OkF f r' c' → lead r c (fs ++ [f]) (nxR f r') (nxC f c')
  | [], _, _, _, _, f, ⟨h1, h2⟩, ok => by subst h1 h2; exact ⟨ok, rfl, rfl⟩
  | g :: fs, _, _, _, _, f, ⟨h1, h2⟩, ok => ⟨h1, lead_snoc h2 ok⟩
def foldAll (fs : List Fold) (p : Pk) : Pk := fs.foldl (fun p f => foldP f p) p
theorem nx_le {f : Fold} {r c : Nat} (ok : OkF f r c) : nxR f r ≤ r ∧ nxC f c ≤ c := by
  have h1 := ok.lo
  have h2 := ok.hi
  unfold nxR nxC
  cases hv : f.v <;> rw [hv] at h2 <;> simp only [Bool.false_eq_true, if_false, if_true] at h2 ⊢ <;> omega
theorem foldAll_shape : ∀ {fs : List Fold} {r c r' c' : Nat} {p : Pk}, Shape p r c → lead r c fs r' c' → Shape (foldAll fs p) r' c'
  | [], _, _, _, _, _, h, ⟨h1, h2⟩ => by subst h1 h2; exact h
  | f :: fs, _, _, _, _, p, h, ⟨h1, h2⟩ => foldAll_shape (fs := fs) (p := foldP f p) (foldP_shape h h1) h2
theorem foldAll_tot {w : Lay → Nat} (hw : TurnW w) : ∀ {fs : List Fold} {r c r' c' : Nat} {p : Pk}, Shape p r c → lead r c fs r' c' → tot w (foldAll fs p) = tot w p
  | [], _, _, _, _, _, _, _ => rfl
  | f :: fs, _, _, _, _, p, h, ⟨h1, h2⟩ => by
    show tot w (foldAll fs (foldP f p)) = _
    rw [foldAll_tot hw (foldP_shape h h1) h2, tot_foldP hw h h1]
theorem turn_one : TurnW fun _ => 1 := fun _ => ⟨rfl, rfl, rfl⟩
/- folded_all(packet, folds): 0=packet 1=folds 2=fold 3=row 4=stack -/
def t_folded_all_l1 (c_folded : Nat) : List Sm := [.asg (.v 0) (.call c_folded [(.var 0), (.var 2)]),
  .kill [2]]
def t_folded_all (c_folded : Nat) : List Sm := [.asg (.v 0) (.comp (.comp (.blt .list [(.var 4)]) (.v 4) .seq [(.var 3)] [] [4]) (.v 3) .seq [(.var 0)] [] [3]),
  .for_ (.v 2) .seq [(.var 1)] (t_folded_all_l1 c_folded),
  .ret (.var 0)]
abbrev S_folded_all (P : Prog) (f : Nat) : Prop := ∀ n (p : Pk) (r c r' c' : Nat) (fs : List Fold) M, Shape p r c → r ≤ 1000 → c ≤ 1000 → lead r c fs r' c' → cnt p ≤ 8000000 → callN P (n + 6) f [encPk p, .lst (fs.map Fold.enc)] M = .ok (.z, encPk (foldAll fs p)) M
theorem p_folded_all {P : Prog} {f a : Nat} (hP : P.fns[f]? = some ⟨2, 5, t_folded_all a⟩) (h1 : S_folded2 P a) : S_folded_all P f := by
  intro n p r c r' c' fs M hp hr hc hl ht
  rw [callN_eq hP rfl]
  have lp : ∀ (gs : List Fold) (p : Pk) (r c : Nat), Shape p r c → r ≤ 1000 → c ≤ 1000 → lead r c gs r' c' → cnt p ≤ 8000000 →
      forL (forB (cfgN P (n + 5)) (.v 2) (t_folded_all_l1 a)) (gs.map Fold.enc) [.fz (encPk p), .fz (.lst (fs.map Fold.enc)), .un, .un, .un] M = .nx [.fz (encPk (foldAll gs p)), .fz (.lst (fs.map Fold.enc)), .un, .un, .un] M := fun gs => by
    induction gs with
    | nil => intro p r c _ _ _ _ _; rfl
    | cons g gs ih =>
      intro p r c hp hr hc hl ht
      have e := h1 n p r c g M hp hr hc hl.1 ht
      have nx := nx_le hl.1
      have ih := ih (foldP g p) _ _ (foldP_shape hp hl.1) (by omega) (by omega) hl.2 (by rw [cnt, tot_foldP turn_one hp hl.1]; exact ht)
      have one : forB (cfgN P (n + 5)) (.v 2) (t_folded_all_l1 a) g.enc [.fz (encPk p), .fz (.lst (fs.map Fold.enc)), .un, .un, .un] M = .nx [.fz (encPk (foldP g p)), .fz (.lst (fs.map Fold.enc)), .un, .un, .un] M := by
        simp! only [forB, t_folded_all_l1, e]
      rw [List.map_cons, forL_cons, one, kFl_nx, ih]
      rfl
  have l0 := lp fs p r c hp hr hc hl ht
  have cp : (D.lst (p.map fun x => D.lst (x.map fun x => D.lst (x.map Lay.enc)))) = encPk p := rfl
  simp! only [t_folded_all, encPk, encRow, encSt]
  rw [cp, l0]
  simp! only [encPk, encRow, encSt]
/-! ### closed packets -/
theorem shape11 {p : Pk} (h : Shape p 1 1) : ∃ s, p = [[s]] := by
  match p, h.len with
  | [r], _ =>
    match r, h.rect r List.mem_cons_self with
    | [s], _ => exact ⟨s, rfl⟩
theorem nb_ii (a b : Int) : nb 2 (.tup [.int a, .int b]) := fun x hx => by
  simp only [List.mem_cons, List.not_mem_nil, or_false] at hx
  rcases hx with rfl | rfl <;> trivial
/- is_closed(packet): 0=packet -/
def t_is_closed (c_extent : Nat) : List Sm := [.ret (.cmp .eq (.call c_extent [(.var 0)]) (.tup [(.lit (.int 1)), (.lit (.int 1))]))]
abbrev S_is_closed (P : Prog) (f : Nat) : Prop := ∀ n (s : Stk) M, callN P (n + 2) f [encPk [[s]]] M = .ok (.z, .bl true) M
theorem p_is_closed {P : Prog} {f a : Nat} (hP : P.fns[f]? = some ⟨1, 1, t_is_closed a⟩) (h1 : S_extent P a) : S_is_closed P f := by
  intro n s M
  rw [callN_eq hP rfl]
  have e := h1 n [[s]] M (by simp)
  have q := c_eqD (nb_ii 1 1) (nb_ii 1 1) (by decide) (by decide)
  have e : callN P (n + 1) a [encPk [[s]]] M = .ok (.z, .tup [.int 1, .int 1]) M := e
  simp! only [t_is_closed, e, q]
/- stack_of(packet): 0=packet -/
def t_stack_of (c_is_closed : Nat) (e_NotClosed : Nat) : List Sm := [.ifs (.not (.call c_is_closed [(.var 0)])) [.raise e_NotClosed] [],
  .ret (.blt .list [(.ix (.ix (.var 0) (.lit (.int 0))) (.lit (.int 0)))])]
abbrev S_stack_of (P : Prog) (f : Nat) : Prop := ∀ n (s : Stk) M, callN P (n + 3) f [encPk [[s]]] M = .ok (.z, encSt s) M
theorem p_stack_of {P : Prog} {f a e : Nat} (hP : P.fns[f]? = some ⟨1, 1, t_stack_of a e⟩) (h1 : S_is_closed P a) : S_stack_of P f := by
  intro n s M
  rw [callN_eq hP rfl]
  have e := h1 n s M
  have i1 : ixD (encPk [[s]]) (.int 0) = some (encRow [s]) := x_l0
  have i2 : ixD (encRow [s]) (.int 0) = some (encSt s) := x_l0
  simp! only [t_stack_of, e, i1, i2, encSt]
/-! ### a row of folds that closes a packet -/
theorem ix2 {a b : D} (x : Int) : ixD (.lst [a, b]) (.int (x % 2)) = some (if x % 2 = 1 then b else a) := by
  have h : x % 2 = 0 ∨ x % 2 = 1 := by omega
  rcases h with h | h <;> (rw [h]; rfl)
theorem ix_pt (x : Int) : ixD (.lst [.str "low", .str "high"]) (.int (x % 2)) = some (.str (ptS (decide (x % 2 = 1)))) := by
  rw [ix2]
  by_cases h : x % 2 = 1 <;> simp [h, ptS]
theorem ix_wy (x : Int) : ixD (.lst [.str "over", .str "under"]) (.int (x % 2)) = some (.str (wyS (decide (¬ x % 2 = 1)))) := by
  rw [ix2]
  by_cases h : x % 2 = 1 <;> simp [h, wyS]
/- _law_fold_row(cell, rows, cols): 0=cell 1=rows 2=cols 3=draws 4=folds 5=k 6=pick 7=part 8=way 9=at -/
def t__law_fold_row_l1 (c__law_numbers : Nat) : List Sm := [.ifs (.cmp .gt (.bin .mul (.var 1) (.var 2)) (.lit (.int 1))) [.asg (.v 6) (.bin .mod (.ix (.var 3) (.bin .mul (.lit (.int 3)) (.var 5))) (.bin .sub (.bin .add (.var 1) (.var 2)) (.lit (.int 2)))), .asg (.v 7) (.ix (.lst [(.lit (.str "low")), (.lit (.str "high"))]) (.bin .mod (.ix (.var 3) (.bin .add (.bin .mul (.lit (.int 3)) (.var 5)) (.lit (.int 1)))) (.lit (.int 2)))), .asg (.v 8) (.ix (.lst [(.lit (.str "over")), (.lit (.str "under"))]) (.bin .mod (.ix (.var 3) (.bin .add (.bin .mul (.lit (.int 3)) (.var 5)) (.lit (.int 2)))) (.lit (.int 2)))), .ifs (.cmp .lt (.var 6) (.bin .sub (.var 2) (.lit (.int 1)))) [.mut 4 [] .app (.a (.e (.tup [(.lit (.str "V")), (.bin .add (.var 6) (.lit (.int 1))), (.var 7), (.var 8)]))), .asg (.v 2) (.blt .max [(.bin .add (.var 6) (.lit (.int 1))), (.bin .sub (.bin .sub (.var 2) (.lit (.int 1))) (.var 6))])] [.asg (.v 9) (.bin .add (.bin .sub (.var 6) (.bin .sub (.var 2) (.lit (.int 1)))) (.lit (.int 1))), .mut 4 [] .app (.a (.e (.tup [(.lit (.str "H")), (.var 9), (.var 7), (.var 8)]))), .asg (.v 1) (.blt .max [(.var 9), (.bin .sub (.var 1) (.var 9))]), .kill [9]], .kill [6, 7, 8, 9]] [],
  .kill [5, 6, 7, 8, 9]]
def t__law_fold_row (c__law_numbers : Nat) : List Sm := [.asg (.v 3) (.call c__law_numbers [(.var 0), (.lit (.int 42)), (.lit (.int 840))]),
  .own 4 (.dn (.lst [])),
  .for_ (.v 5) .rng1 [(.lit (.int 14))] (t__law_fold_row_l1 c__law_numbers),
  .freeze 4,
  .ret (.var 4)]
abbrev S__law_fold_row (P : Prog) (f : Nat) : Prop := ∀ n cell (r c : Nat) M, 1 ≤ r ∧ r ≤ 8 → 1 ≤ c ∧ c ≤ 8 → ∃ fs : List Fold, lead r c fs 1 1 ∧ fs.length ≤ 14 ∧ callN P (n + 2) f [.int cell, .int r, .int c] M = .ok (.z, .lst (fs.map Fold.enc)) M
theorem p__law_fold_row {P : Prog} {f a : Nat} (hP : P.fns[f]? = some ⟨3, 10, t__law_fold_row a⟩) (h1 : S__law_numbers P a) : S__law_fold_row P f := by
  intro n cell r c M hr hc
  have e0 := h1 n cell 42 840 M (by decide) (by decide) (by decide) (by decide)
  have dl : (nums cell 42 840).length = 42 := nums_length _ _ _
  have dr := nums_drw cell 42 (limit := 840) (by decide)
  have t42 : (42 : Int).toNat = 42 := rfl
  rw [t42] at e0
  generalize nums cell 42 840 = d at *
  obtain ⟨ρ, e2, fs, r', c', rfl, hl, hn, hr', hc', hlen⟩ := forL_relN (body := forB (cfgN P (n + 1)) (.v 5) (t__law_fold_row_l1 a)) (M := M) (n := 14) (ρ := [.fz (.int cell), .fz (.int r), .fz (.int c), .fz (iL d), .ow (.s .z) (.lst []), .un, .un, .un, .un, .un])
    (fun i ρ => ∃ (fs : List Fold) (r' c' : Nat), ρ = [.fz (.int cell), .fz (.int r'), .fz (.int c'), .fz (iL d), .ow (.s .z) (.lst (fs.map Fold.enc)), .un, .un, .un, .un, .un] ∧ lead r c fs r' c' ∧ r' + c' - 2 ≤ 14 - i ∧ (1 ≤ r' ∧ r' ≤ 8) ∧ (1 ≤ c' ∧ c' ≤ 8) ∧ fs.length ≤ i)
    ⟨[], r, c, rfl, ⟨rfl, rfl⟩, by omega, hr, hc, Nat.le_refl _⟩ fun i ρ hi ⟨fs, r', c', er, hl, hn, hr', hc', hlen⟩ => by
      subst er
      have cast1 : (r' : Int) * (c' : Int) = ((r' * c' : Nat) : Int) := by simp
      by_cases h : 1 < r' * c'
      · have h2 : (1 : Int) < (r' : Int) * (c' : Int) := by rw [cast1]; omega
        have hrc : 2 < r' + c' := by
          by_cases z : r' = 1 ∧ c' = 1
          · rw [z.1, z.2] at h; omega
          · omega
        have t0 : (3 * (i : Int)).toNat = 3 * i := by omega
        have t1 : (3 * (i : Int) + 1).toNat = 3 * i + 1 := by omega
        have t2 : (3 * (i : Int) + 2).toNat = 3 * i + 2 := by omega
        have pk0 := Int.emod_nonneg (d.getD (3 * i) default) (b := (r' : Int) + c' - 2) (by omega)
        have pk1 := Int.emod_lt_of_pos (d.getD (3 * i) default) (b := (r' : Int) + c' - 2) (by omega)
        generalize hk : d.getD (3 * i) default % ((r' : Int) + c' - 2) = pk at pk0 pk1
        obtain ⟨pk, rfl⟩ := Int.eq_ofNat_of_zero_le pk0
        by_cases hv : pk < c' - 1
        · have hv2 : (pk : Int) < (c' : Int) - 1 := by omega
          let g : Fold := ⟨true, pk + 1, decide (d.getD (3 * i + 1) default % 2 = 1), decide (¬ d.getD (3 * i + 2) default % 2 = 1)⟩
          have eg : g.enc = .tup [.str "V", .int ((pk : Int) + 1), .str (ptS (decide (d.getD (3 * i + 1) default % 2 = 1))), .str (wyS (decide (¬ d.getD (3 * i + 2) default % 2 = 1)))] := rfl
          have ok : OkF g r' c' := ⟨by show 1 ≤ pk + 1; omega, by show pk + 1 < c'; omega⟩
          have ec : ((nxC g c' : Nat) : Int) = max ((pk : Int) + 1) ((c' : Int) - 1 - pk) := by
            show ((max (pk + 1) (c' - (pk + 1)) : Nat) : Int) = _
            omega
          have nr : nxR g r' = r' := rfl
          have nc : nxC g c' = max (pk + 1) (c' - (pk + 1)) := rfl
          refine ⟨_, ?_, fs ++ [g], nxR g r', nxC g c', rfl, lead_snoc hl ok, by rw [nr, nc]; omega, by rw [nr]; exact hr', by rw [nc]; omega, by simp; omega⟩
          rw [nr, ec]
          have fl : (fs.map Fold.enc).length = fs.length := by simp
          simp! only [forB, t__law_fold_row_l1, iL, h2, t0, t1, t2, hk, ix_pt, ix_wy, hv2, List.map_append, eg, dl]
        · have hv2 : ¬ (pk : Int) < (c' : Int) - 1 := by omega
          let g : Fold := ⟨false, pk - (c' - 1) + 1, decide (d.getD (3 * i + 1) default % 2 = 1), decide (¬ d.getD (3 * i + 2) default % 2 = 1)⟩
          have ea : ((pk - (c' - 1) + 1 : Nat) : Int) = (pk : Int) - ((c' : Int) - 1) + 1 := by omega
          have eg : g.enc = .tup [.str "H", .int ((pk : Int) - ((c' : Int) - 1) + 1), .str (ptS (decide (d.getD (3 * i + 1) default % 2 = 1))), .str (wyS (decide (¬ d.getD (3 * i + 2) default % 2 = 1)))] := by
            rw [← ea]; rfl
          have ok : OkF g r' c' := ⟨by show 1 ≤ pk - (c' - 1) + 1; omega, by show pk - (c' - 1) + 1 < r'; omega⟩
          have ec : ((nxR g r' : Nat) : Int) = max ((pk : Int) - ((c' : Int) - 1) + 1) ((r' : Int) - ((pk : Int) - ((c' : Int) - 1) + 1)) := by
            show ((max (pk - (c' - 1) + 1) (r' - (pk - (c' - 1) + 1)) : Nat) : Int) = _
            omega
          have nc : nxC g c' = c' := rfl
          have nr : nxR g r' = max (pk - (c' - 1) + 1) (r' - (pk - (c' - 1) + 1)) := rfl
          refine ⟨_, ?_, fs ++ [g], nxR g r', nxC g c', rfl, lead_snoc hl ok, by rw [nr, nc]; omega, by rw [nr]; omega, by rw [nc]; omega, by simp; omega⟩
          rw [nc, ec]
          have fl : (fs.map Fold.enc).length = fs.length := by simp
          simp! only [forB, t__law_fold_row_l1, iL, h2, t0, t1, t2, hk, ix_pt, ix_wy, hv2, List.map_append, eg, dl]
      · have h2 : ¬ (1 : Int) < (r' : Int) * (c' : Int) := by rw [cast1]; omega
        have z : r' = 1 ∧ c' = 1 := by
          have h3 : r' ≤ r' * c' := Nat.le_mul_of_pos_right _ (by omega)
          have h4 : c' ≤ r' * c' := Nat.le_mul_of_pos_left _ (by omega)
          omega
        refine ⟨_, ?_, fs, r', c', rfl, hl, by omega, hr', hc', by omega⟩
        simp! only [forB, t__law_fold_row_l1, h2]
  have z : r' = 1 ∧ c' = 1 := by omega
  obtain ⟨rfl, rfl⟩ := z
  refine ⟨fs, hl, hlen, ?_⟩
  rw [callN_eq hP rfl]
  simp only [iL] at e0 e2
  simp! only [t__law_fold_row, e0, e2]
end VL

/-! L6: what folding keeps: odd and even; every place once -/
namespace VL
open PySem
def AllS (R : Int → Nat → Lay → Prop) (b : Int) (S : List Strip) : Prop := ∀ (k : Nat) (r : Strip), S[k]? = some r → ∀ (t : Nat) (s : Stk), r[t]? = some s → ∀ l ∈ s, R (k + b) t l
structure Par (R : Int → Nat → Lay → Prop) (v : Bool) : Prop where
  per : ∀ k k' t l, (k - k') % 2 = 0 → R k t l → R k' t l
  turn : ∀ k t l, R k t l → R (k + 1) t (if v then l.ov else l.lv)
section
variable {R : Int → Nat → Lay → Prop} {v : Bool} {b b' : Int} {A B S : List Strip}
theorem AllS.shift (P : Par R v) (h : AllS R b A) (e : (b - b') % 2 = 0) : AllS R b' A := fun k r hk t s ht l hl => P.per _ _ _ _ (by omega) (h k r hk t s ht l hl)
theorem AllS.rev (P : Par R v) (h : AllS R b A) : AllS R (A.length - 1 + b) A.reverse := fun k r hk t s ht l hl => by
  have hlt : k < A.length := by simpa using (List.getElem?_eq_some_iff.mp hk).1
  rw [List.getElem?_reverse hlt] at hk
  exact P.per _ _ _ _ (by omega) (h _ r hk t s ht l hl)
theorem AllS.take (h : AllS R b A) (a : Nat) : AllS R b (A.take a) := fun k r hk => by
  have hlt := (List.getElem?_eq_some_iff.mp hk).1
  rw [List.getElem?_take, if_pos (by simp at hlt; omega)] at hk
  exact h k r hk
theorem AllS.drop (h : AllS R b A) (a : Nat) : AllS R (a + b) (A.drop a) := fun k r hk t s ht l hl => by
  rw [List.getElem?_drop] at hk
  have := h _ r hk t s ht l hl
  rwa [show (((a + k : Nat) : Int) + b) = (k : Int) + ((a : Int) + b) by omega] at this
theorem mem_ovS {v : Bool} {s : Stk} {l : Lay} (h : l ∈ ovS v s) : ∃ l0 ∈ s, l = if v then l0.ov else l0.lv := by
  cases v
  · simp only [ovS, Bool.false_eq_true, if_false, stH, List.mem_map, List.mem_reverse] at h ⊢
    obtain ⟨l0, h1, h2⟩ := h
    exact ⟨l0, h1, h2.symm⟩
  · simp only [ovS, if_true, stV, List.mem_map, List.mem_reverse] at h ⊢
    obtain ⟨l0, h1, h2⟩ := h
    exact ⟨l0, h1, h2.symm⟩
theorem AllS.turn (P : Par R v) (h : AllS R b A) : AllS R (b + 1) (A.map (List.map (ovS v))) := fun k r hk t s ht l hl => by
  rw [List.getElem?_map, Option.map_eq_some_iff] at hk
  obtain ⟨r0, h0, rfl⟩ := hk
  rw [List.getElem?_map, Option.map_eq_some_iff] at ht
  obtain ⟨s0, hs, rfl⟩ := ht
  obtain ⟨l0, h1, rfl⟩ := mem_ovS hl
  have := P.turn _ _ _ (h k r0 h0 t s0 hs l0 h1)
  rwa [show (k : Int) + b + 1 = k + (b + 1) by omega] at this
theorem mem_lay2 {o : Bool} {m s : Stk} {l : Lay} (h : l ∈ lay2 o m s) : l ∈ m ∨ l ∈ s := by
  unfold lay2 at h
  split at h
  · exact List.mem_append.mp h
  · exact (List.mem_append.mp h).symm
theorem AllS.zl {o : Bool} (h : AllS R b A) (h' : AllS R b B) : AllS R b (zl (List.zipWith (lay2 o)) A B) := fun k r hk t s ht l hl => by
  rw [zl_get] at hk
  cases e1 : A[k]? with
  | none =>
    rw [e1] at hk
    exact h' k r (by cases e2 : B[k]? <;> rw [e2] at hk <;> simpa using hk) t s ht l hl
  | some x =>
    cases e2 : B[k]? with
    | none =>
      rw [e1, e2] at hk
      simp only [Option.some.injEq] at hk
      subst hk
      exact h k x e1 t s ht l hl
    | some y =>
      rw [e1, e2] at hk
      simp only [Option.some.injEq] at hk
      subst hk
      rw [List.getElem?_zipWith] at ht
      cases e3 : x[t]? with
      | none => rw [e3] at ht; simp at ht
      | some m =>
        cases e4 : y[t]? with
        | none => rw [e3, e4] at ht; simp at ht
        | some n =>
          rw [e3, e4] at ht
          simp only [Option.some.injEq] at ht
          subst ht
          rcases mem_lay2 hl with z | z
          · exact h k x e1 t m e3 l z
          · exact h' k y e2 t n e4 l z
theorem AllS.foldS {hi ov : Bool} {a : Nat} (P : Par R v) (h : AllS R b S) (ha : a ≤ S.length) : ∃ b', AllS R b' (foldS hi ov (ovS v) a S) := by
  have hA := (h.take a).rev P
  have hB := h.drop a
  rw [List.length_take, Nat.min_eq_left ha] at hA
  unfold VL.foldS
  split
  · exact ⟨_, ((hB.turn P).zl (hA.shift P (by omega))).rev P⟩
  · exact ⟨_, ((hA.turn P).zl (hB.shift P (by omega)))⟩
end
/-- by rows and columns -/
def PInv (Q : Int → Int → Lay → Prop) (a b : Int) (p : Pk) : Prop := ∀ (i : Nat) (r : Strip), p[i]? = some r → ∀ (j : Nat) (s : Stk), r[j]? = some s → ∀ l ∈ s, Q (i + a) (j + b) l
structure Par2 (Q : Int → Int → Lay → Prop) : Prop where
  per : ∀ i i' j j' l, (i - i') % 2 = 0 → (j - j') % 2 = 0 → Q i j l → Q i' j' l
  ov : ∀ i j l, Q i j l → Q i (j + 1) l.ov
  lv : ∀ i j l, Q i j l → Q (i + 1) j l.lv
theorem PInv.cols {Q : Int → Int → Lay → Prop} {a b : Int} {p : Pk} (h : PInv Q a b p) {c : Nat} (hr : RectG p c) : AllS (fun k t l => Q (t + a) k l) b (cols p) := fun k r hk t s ht l hl => by
  simp only [VL.cols, List.getElem?_map, Option.map_eq_some_iff] at hk
  obtain ⟨j, hj, rfl⟩ := hk
  have hlt := (List.getElem?_eq_some_iff.mp hj).1
  simp only [List.length_range] at hlt
  rw [List.getElem?_range hlt] at hj
  cases hj
  rw [List.getElem?_map, Option.map_eq_some_iff] at ht
  obtain ⟨r0, h0, rfl⟩ := ht
  have hk2 : k < r0.length := by
    rw [hr r0 (List.mem_of_getElem? h0)]
    cases p with
    | nil => simp at h0
    | cons r1 p => simpa [hr r1 List.mem_cons_self] using hlt
  refine h t r0 h0 k (r0.getD k default) ?_ l hl
  rw [List.getElem?_eq_getElem hk2, List.getD_eq_getElem?_getD, List.getElem?_eq_getElem hk2]; rfl
theorem AllS.back {Q : Int → Int → Lay → Prop} {a b : Int} {F : List Strip} (h : AllS (fun k t l => Q (t + a) k l) b F) {c : Nat} (hr : RectG F c) : PInv Q a b (cols F) := fun i r hi j s hj l hl => by
  simp only [VL.cols, List.getElem?_map, Option.map_eq_some_iff] at hi
  obtain ⟨t, ht, rfl⟩ := hi
  have hlt := (List.getElem?_eq_some_iff.mp ht).1
  simp only [List.length_range] at hlt
  rw [List.getElem?_range hlt] at ht
  cases ht
  rw [List.getElem?_map, Option.map_eq_some_iff] at hj
  obtain ⟨r0, h0, rfl⟩ := hj
  have hk2 : i < r0.length := by
    rw [hr r0 (List.mem_of_getElem? h0)]
    cases F with
    | nil => simp at h0
    | cons r1 F => simpa [hr r1 List.mem_cons_self] using hlt
  refine h j r0 h0 i (r0.getD i default) ?_ l hl
  rw [List.getElem?_eq_getElem hk2, List.getD_eq_getElem?_getD, List.getElem?_eq_getElem hk2]; rfl
theorem PInv.foldP {Q : Int → Int → Lay → Prop} (Z : Par2 Q) {a b : Int} {p : Pk} {f : Fold} {r c : Nat} (hp : Shape p r c) (ok : OkF f r c) (h : PInv Q a b p) : ∃ a' b', PInv Q a' b' (foldP f p) := by
  have ok' := ok.strips hp
  obtain ⟨s1, s2⟩ := hp.strips f.v
  rw [foldP_eq hp.ne hp.rect ok']
  have fr := foldS_rect (hi := f.hi) (ov := f.ov) (t := ovS f.v) (a := f.at_) s2
  have ha : f.at_ ≤ (strips f.v p).length := by have := ok'.hi; omega
  cases hv : f.v
  · rw [hv] at fr ha
    have P : Par (fun k t l => Q k (t + b) l) false := ⟨fun k k' t l e q => Z.per _ _ _ _ _ e (by simp) q, fun k t l q => Z.lv _ _ _ q⟩
    obtain ⟨a', h'⟩ := AllS.foldS (hi := f.hi) (ov := f.ov) P (S := p) (b := a) (fun k r hk t s ht l hl => h k r hk t s ht l hl) ha
    exact ⟨a', b, fun i r hi j s hj l hl => h' i r hi j s hj l hl⟩
  · rw [hv] at fr ha
    have P : Par (fun k t l => Q (t + a) k l) true := ⟨fun k k' t l e q => Z.per _ _ _ _ _ (by simp) e q, fun k t l q => Z.ov _ _ _ q⟩
    obtain ⟨b', h'⟩ := AllS.foldS (hi := f.hi) (ov := f.ov) P (h.cols hp.rect) ha
    exact ⟨a, b', h'.back fr⟩
theorem PInv.all {Q : Int → Int → Lay → Prop} (Z : Par2 Q) : ∀ {fs : List Fold} {a b : Int} {p : Pk} {r c r' c' : Nat}, Shape p r c → lead r c fs r' c' → PInv Q a b p → ∃ a' b', PInv Q a' b' (VL.foldAll fs p)
  | [], a, b, _, _, _, _, _, _, _, h => ⟨a, b, h⟩
  | f :: fs, _, _, p, _, _, _, _, hp, ⟨h1, h2⟩, h => by
    obtain ⟨a', b', h'⟩ := h.foldP Z hp h1
    exact PInv.all Z (fs := fs) (p := VL.foldP f p) (foldP_shape hp h1) h2 h'
/-! ### every place once -/
theorem count_sum {α : Type} (key : α → Int × Int) (q : Int × Int) (l : List α) : (l.map key).count q = (l.map fun x => if key x = q then 1 else 0).sum := by
  induction l with
  | nil => rfl
  | cons a l ih =>
    rw [List.map_cons, List.count_cons, ih, List.map_cons, List.sum_cons]
    by_cases h : key a = q <;> simp [h]; omega
def Lay.rc (l : Lay) : Int × Int := (l.row, l.col)
def dueP (r c : Nat) : List (Int × Int) := (List.range r).flatMap fun (i : Nat) => (List.range c).map fun (j : Nat) => (((i : Nat) : Int), ((j : Nat) : Int))
theorem flat_tot (w : Lay → Nat) (sh : Int) (r c : Nat) : tot w (flatP sh r c) = ((List.range r).map fun (i : Nat) => ((List.range c).map fun (j : Nat) => w ⟨sh, i, j, 0, 0⟩).sum).sum := by
  unfold tot flatP
  simp only [List.map_map, Function.comp_def, List.map_cons, List.map_nil, List.sum_cons, List.sum_nil, Nat.add_zero]
theorem due_count (r c : Nat) (q : Int × Int) : (dueP r c).count q = ((List.range r).map fun (i : Nat) => ((List.range c).map fun (j : Nat) => if (((i : Nat) : Int), ((j : Nat) : Int)) = q then 1 else 0).sum).sum := by
  unfold dueP
  rw [List.count_flatMap]
  congr 1
  apply List.map_congr_left
  intro i _
  exact count_sum (fun j : Nat => (((i : Nat) : Int), ((j : Nat) : Int))) q (List.range c)
theorem rc_turn (q : Int × Int) : TurnW fun l => if l.rc = q then 1 else 0 := fun _ => ⟨rfl, rfl, rfl⟩
theorem places_perm {sh : Int} {r c : Nat} {s : Stk} (h : ∀ q : Int × Int, tot (fun l => if l.rc = q then 1 else 0) [[s]] = tot (fun l => if l.rc = q then 1 else 0) (flatP sh r c)) : (s.map Lay.rc).Perm (dueP r c) := by
  rw [List.perm_iff_count]
  intro q
  have := h q
  rw [flat_tot] at this
  have e : tot (fun l => if l.rc = q then 1 else 0) [[s]] = (s.map fun l => if l.rc = q then 1 else 0).sum := by simp [tot]
  rw [count_sum, due_count, ← e, this]
  rfl
theorem due_sorted (r c : Nat) : (dueP r c).Pairwise fun a b => lePB a b = true := by
  unfold dueP
  rw [List.pairwise_flatMap]
  refine ⟨fun i _ => ?_, ?_⟩
  · rw [List.pairwise_map]
    exact List.pairwise_lt_range.imp fun h => by simp [lePB]; omega
  · exact List.pairwise_lt_range.imp fun {a b} h x hx y hy => by
      obtain ⟨j, _, rfl⟩ := List.mem_map.mp hx
      obtain ⟨k, _, rfl⟩ := List.mem_map.mp hy
      simp [lePB]; omega
theorem places_sort {s : Stk} {r c : Nat} (h : (s.map Lay.rc).Perm (dueP r c)) : sortP (s.map Lay.rc) = dueP r c := (sortP_uniq h.symm (due_sorted r c)).symm
theorem flatP_shape (sh : Int) {r c : Nat} (hr : 1 ≤ r) (hc : 1 ≤ c) : Shape (flatP sh r c) r c := ⟨by simp [flatP], fun x hx => by
  simp only [flatP, List.mem_map] at hx
  obtain ⟨i, _, rfl⟩ := hx
  simp, hr, hc⟩
theorem flatP_cnt (sh : Int) (r c : Nat) : cnt (flatP sh r c) = r * c := by
  have k : ∀ n m : Nat, ((List.range n).map fun _ => m).sum = n * m := fun n m => by
    induction n with
    | zero => simp
    | succ n ih => rw [List.range_succ, List.map_append, List.sum_append, ih, Nat.add_mul]; simp
  rw [cnt, flat_tot, k c 1, k r, Nat.mul_one]
theorem PInv.flat {Q : Int → Int → Lay → Prop} (sh : Int) (r c : Nat) (h : ∀ (i j : Nat), Q i j ⟨sh, i, j, 0, 0⟩) : PInv Q 0 0 (flatP sh r c) := fun i x hi j s hj l hl => by
  simp only [flatP, List.getElem?_map, Option.map_eq_some_iff] at hi
  obtain ⟨i', hi', rfl⟩ := hi
  have h1 := (List.getElem?_eq_some_iff.mp hi').1
  simp only [List.length_range] at h1
  rw [List.getElem?_range h1] at hi'
  cases hi'
  simp only [List.getElem?_map, Option.map_eq_some_iff] at hj
  obtain ⟨j', hj', rfl⟩ := hj
  have h2 := (List.getElem?_eq_some_iff.mp hj').1
  simp only [List.length_range] at h2
  rw [List.getElem?_range h2] at hj'
  cases hj'
  rw [List.mem_singleton.mp hl]
  simpa using h i j
end VL

/-! L7: pages on faces -/
namespace VL
open PySem
/-- odd and even -/
def qk (sh i j : Int) (l : Lay) : Prop := l.sh = sh ∧ (l.fc = 0 ∨ l.fc = 1) ∧ (l.tn = 0 ∨ l.tn = 1) ∧ (l.tn + l.row + i) % 2 = 0 ∧ (l.fc + l.tn + l.col + j) % 2 = 0
theorem qk_par (sh : Int) : Par2 (qk sh) where
  per := fun i i' j j' l e1 e2 ⟨h1, h2, h3, h4, h5⟩ => ⟨h1, h2, h3, by omega, by omega⟩
  ov := fun i j l ⟨h1, h2, h3, h4, h5⟩ => ⟨h1, by simp only [Lay.ov]; omega, h3, h4, by simp only [Lay.ov]; omega⟩
  lv := fun i j l ⟨h1, h2, h3, h4, h5⟩ => ⟨h1, by simp only [Lay.lv]; omega, by simp only [Lay.lv]; omega, by simp only [Lay.lv]; omega, by simp only [Lay.lv]; omega⟩
/-- what a closed packet's stack is like -/
structure GoodSt (sh : Int) (r c : Nat) (s : Stk) : Prop where
  q : ∃ a b, ∀ l ∈ s, qk sh a b l
  perm : (s.map Lay.rc).Perm (dueP r c)
theorem dueP_len (r c : Nat) : (dueP r c).length = r * c := by
  unfold dueP
  induction r with
  | zero => simp
  | succ r ih => rw [List.range_succ, List.flatMap_append, List.length_append, ih, Nat.add_mul]; simp
theorem GoodSt.len {sh : Int} {r c : Nat} {s : Stk} (h : GoodSt sh r c s) : s.length = r * c := by
  have := h.perm.length_eq
  rwa [List.length_map, dueP_len] at this
theorem turn_rev {s : Stk} {f : Lay → Lay} (hf : ∀ l, (f l).rc = l.rc) : ((s.reverse.map f).map Lay.rc).Perm (s.map Lay.rc) := by
  rw [List.map_map]
  have : (Lay.rc ∘ f) = Lay.rc := funext hf
  rw [this, List.map_reverse]
  exact List.reverse_perm _
theorem GoodSt.stV {sh : Int} {r c : Nat} {s : Stk} (h : GoodSt sh r c s) : GoodSt sh r c (stV s) := by
  obtain ⟨a, b, q⟩ := h.q
  refine ⟨⟨a, b + 1, fun l hl => ?_⟩, (turn_rev (f := Lay.ov) fun _ => rfl).trans h.perm⟩
  obtain ⟨l0, h0, rfl⟩ := List.mem_map.mp hl
  exact (qk_par sh).ov _ _ _ (q l0 (List.mem_reverse.mp h0))
theorem GoodSt.stH {sh : Int} {r c : Nat} {s : Stk} (h : GoodSt sh r c s) : GoodSt sh r c (stH s) := by
  obtain ⟨a, b, q⟩ := h.q
  refine ⟨⟨a + 1, b, fun l hl => ?_⟩, (turn_rev (f := Lay.lv) fun _ => rfl).trans h.perm⟩
  obtain ⟨l0, h0, rfl⟩ := List.mem_map.mp hl
  exact (qk_par sh).lv _ _ _ (q l0 (List.mem_reverse.mp h0))
theorem GoodSt.stS {sh : Int} {r c : Nat} {s : Stk} (h : GoodSt sh r c s) : GoodSt sh r c (stS s) := by
  obtain ⟨a, b, q⟩ := h.q
  refine ⟨⟨a + 1, b + 1, fun l hl => ?_⟩, ?_⟩
  · obtain ⟨l0, h0, rfl⟩ := List.mem_map.mp hl
    obtain ⟨h1, h2, h3, h4, h5⟩ := q l0 h0
    exact ⟨h1, h2, by simp only [Lay.sp]; omega, by simp only [Lay.sp]; omega, by simp only [Lay.sp]; omega⟩
  · have e : (VL.stS s).map Lay.rc = s.map Lay.rc := by unfold VL.stS; rw [List.map_map]; rfl
    rw [e]; exact h.perm
theorem folded_good (sh : Int) {r c : Nat} (hr : 1 ≤ r) (hc : 1 ≤ c) {fs : List Fold} (hl : lead r c fs 1 1) : ∃ s, foldAll fs (flatP sh r c) = [[s]] ∧ GoodSt sh r c s := by
  have fs0 := flatP_shape sh hr hc
  obtain ⟨s, e⟩ := shape11 (foldAll_shape fs0 hl)
  refine ⟨s, e, ?_, ?_⟩
  · obtain ⟨a, b, h⟩ := PInv.all (qk_par sh) fs0 hl (PInv.flat sh r c fun i j => ⟨rfl, .inl rfl, .inl rfl, by simp only; omega, by simp only; omega⟩)
    rw [e] at h
    exact ⟨_, _, fun l hl => h 0 [s] rfl 0 s rfl l hl⟩
  · exact places_perm fun q => by rw [← e]; exact foldAll_tot (rc_turn q) fs0 hl
/-- the four turnings of a closed packet -/
theorem turn_good {P : Prog} {f : Nat} (h : S_turned P f) (n : Nat) {m : Str} (hm : m = "none" ∨ m = "V" ∨ m = "H" ∨ m = "spin") {sh : Int} {r c : Nat} {s : Stk} (hs : GoodSt sh r c s) (M : Mem) : ∃ s', callN P (n + 4) f [encPk [[s]], .str m] M = .ok (.z, encPk [[s']]) M ∧ GoodSt sh r c s' := by
  rcases hm with rfl | rfl | rfl | rfl
  · exact ⟨s, h.t0 n [[s]] M, hs⟩
  · exact ⟨stV s, h.tV n [[s]] M, hs.stV⟩
  · exact ⟨stH s, h.tH n [[s]] M, hs.stH⟩
  · exact ⟨stS s, h.tS n [[s]] M, hs.stS⟩
theorem due_nodup (r c : Nat) : (dueP r c).Nodup := by
  unfold dueP
  rw [List.nodup_iff_pairwise_ne, List.pairwise_flatMap]
  refine ⟨fun i _ => ?_, ?_⟩
  · rw [List.pairwise_map]
    exact List.pairwise_lt_range.imp fun h e => by simp at e; omega
  · exact List.pairwise_lt_range.imp fun {a b} h x hx y hy e => by
      obtain ⟨j, _, rfl⟩ := List.mem_map.mp hx
      obtain ⟨k, _, rfl⟩ := List.mem_map.mp hy
      simp at e; omega
theorem due_mem {r c : Nat} {q : Int × Int} : q ∈ dueP r c ↔ ∃ i j : Nat, i < r ∧ j < c ∧ q = (((i : Nat) : Int), ((j : Nat) : Int)) := by
  unfold dueP
  simp only [List.mem_flatMap, List.mem_map, List.mem_range]
  constructor
  · rintro ⟨i, hi, j, hj, rfl⟩; exact ⟨i, j, hi, hj, rfl⟩
  · rintro ⟨i, j, hi, hj, rfl⟩; exact ⟨i, hi, j, hj, rfl⟩
theorem GoodSt.nd {sh : Int} {r c : Nat} {s : Stk} (h : GoodSt sh r c s) : (s.map Lay.rc).Nodup := h.perm.nodup_iff.mpr (due_nodup r c)
/-! ### marks -/
def upm (l : Lay) (pg : Int) : Mk := ⟨pg, chg 0 l.tn⟩
def lwm (hd : Bool) (l : Lay) (pg : Int) : Mk := ⟨pg, if hd = true then 1 - chg 0 l.tn else chg 0 l.tn⟩
/- upper_mark(layer, page): 0=layer 1=page -/
def t_upper_mark (c_changed : Nat) : List Sm := [.ret (.tup [(.var 1), (.call c_changed [(.lit (.int 0)), (.ix (.var 0) (.lit (.int 4)))])])]
abbrev S_upper_mark (P : Prog) (f : Nat) : Prop := ∀ n (l : Lay) (pg : Int) M, callN P (n + 2) f [l.enc, .int pg] M = .ok (.z, (upm l pg).enc) M
theorem p_upper_mark {P : Prog} {f a : Nat} (hP : P.fns[f]? = some ⟨2, 2, t_upper_mark a⟩) (h1 : S_changed P a) : S_upper_mark P f := by
  intro n l pg M
  rw [callN_eq hP rfl]
  simp! only [t_upper_mark, Lay.enc, h1, upm, Mk.enc]
/- lower_mark(layer, page, spine): 0=layer 1=page 2=spine 3=head -/
def t_lower_mark (c_changed : Nat) : List Sm := [.asg (.v 3) (.call c_changed [(.lit (.int 0)), (.ix (.var 0) (.lit (.int 4)))]),
  .ifs (.cmp .eq (.var 2) (.lit (.str "head"))) [.asg (.v 3) (.bin .sub (.lit (.int 1)) (.var 3))] [],
  .ret (.tup [(.var 1), (.var 3)])]
abbrev S_lower_mark (P : Prog) (f : Nat) : Prop := ∀ n (l : Lay) (pg : Int) (sp : Str) M, callN P (n + 2) f [l.enc, .int pg, .str sp] M = .ok (.z, (lwm (decide (sp = "head")) l pg).enc) M
theorem p_lower_mark {P : Prog} {f a : Nat} (hP : P.fns[f]? = some ⟨3, 4, t_lower_mark a⟩) (h1 : S_changed P a) : S_lower_mark P f := by
  intro n l pg sp M
  rw [callN_eq hP rfl]
  by_cases h : sp = "head" <;> simp! only [t_lower_mark, Lay.enc, h1, lwm, Mk.enc, h]
/-- faces and their marks -/
def fcsL (hd : Bool) (s : Stk) (pg : List Int) (n : Nat) : List (Fce × Mk) := (List.range n).flatMap fun k => [((s.getD k default).up, upm (s.getD k default) (pg.getD (2 * k) default)), ((s.getD k default).dn, lwm hd (s.getD k default) (pg.getD (2 * k + 1) default))]
def enF (p : Fce × Mk) : D × D := (p.1.enc, p.2.enc)
theorem Fce.inj {x y : Fce} (h : x.enc = y.enc) : x = y := by
  cases x; cases y
  simp only [Fce.enc, D.tup.injEq, List.cons.injEq, D.int.injEq, and_true] at h
  simp only [Fce.mk.injEq]; exact h
theorem fcsL_succ (hd : Bool) (s : Stk) (pg : List Int) (n : Nat) : fcsL hd s pg (n + 1) = fcsL hd s pg n ++ [((s.getD n default).up, upm (s.getD n default) (pg.getD (2 * n) default)), ((s.getD n default).dn, lwm hd (s.getD n default) (pg.getD (2 * n + 1) default))] := by
  unfold fcsL
  rw [List.range_succ, List.flatMap_append]; simp
theorem fcsL_len (hd : Bool) (s : Stk) (pg : List Int) : ∀ n, (fcsL hd s pg n).length = 2 * n
  | 0 => rfl
  | n + 1 => by rw [fcsL_succ, List.length_append, fcsL_len hd s pg n]; simp; omega
/-- apart -/
structure Apart (s : Stk) : Prop where
  nd : (s.map Lay.rc).Nodup
  f : ∀ l ∈ s, l.fc = 0 ∨ l.fc = 1
theorem Apart.ne {s : Stk} (h : Apart s) {i j : Nat} (hi : i < j) (hj : j < s.length) : (s.getD i default).rc ≠ (s.getD j default).rc := by
  have := List.pairwise_iff_getElem.mp h.nd i j (by simp; omega) (by simpa using hj) hi
  rw [List.getElem_map, List.getElem_map] at this
  rw [List.getD_eq_getElem?_getD, List.getD_eq_getElem?_getD, List.getElem?_eq_getElem (by omega), List.getElem?_eq_getElem hj]
  exact this
theorem Fce.rc_ne {l m : Lay} (h : l.rc ≠ m.rc) : l.up ≠ m.up ∧ l.up ≠ m.dn ∧ l.dn ≠ m.up ∧ l.dn ≠ m.dn := by
  refine ⟨?_, ?_, ?_, ?_⟩ <;> (intro e; apply h; simp only [Lay.up, Lay.dn, Fce.mk.injEq] at e; simp only [Lay.rc, e.2.1, e.2.2.1])
theorem up_dn {l : Lay} (h : l.fc = 0 ∨ l.fc = 1) : l.up ≠ l.dn := by
  intro e
  simp only [Lay.up, Lay.dn, Fce.mk.injEq] at e
  omega
theorem fcs_new {hd : Bool} {s : Stk} {pg : List Int} (h : Apart s) {n : Nat} (hn : n < s.length) {x : Fce} (hx : x = (s.getD n default).up ∨ x = (s.getD n default).dn) : ∀ p ∈ (fcsL hd s pg n).map enF, p.1 ≠ x.enc := fun p hp e => by
  obtain ⟨q, hq, rfl⟩ := List.mem_map.mp hp
  have e := Fce.inj e
  simp only [fcsL, List.mem_flatMap, List.mem_range, List.mem_cons, List.not_mem_nil, or_false] at hq
  obtain ⟨k, hk, hq⟩ := hq
  have ne := Fce.rc_ne (h.ne hk hn)
  rcases hq with rfl | rfl <;> rcases hx with rfl | rfl
  · exact ne.1 e
  · exact ne.2.1 e
  · exact ne.2.2.1 e
  · exact ne.2.2.2 e
/- faces_wanted(stack, spine, pages): 0=stack 1=spine 2=pages 3=found 4=k 5=layer -/
def t_faces_wanted_l1 (c_upper_face : Nat) (c_upper_mark : Nat) (c_lower_face : Nat) (c_lower_mark : Nat) : List Sm := [.asg (.v 5) (.ix (.var 0) (.var 4)),
  .dset 3 (.call c_upper_face [(.var 5)]) (.call c_upper_mark [(.var 5), (.ix (.var 2) (.bin .mul (.lit (.int 2)) (.var 4)))]),
  .dset 3 (.call c_lower_face [(.var 5)]) (.call c_lower_mark [(.var 5), (.ix (.var 2) (.bin .add (.bin .mul (.lit (.int 2)) (.var 4)) (.lit (.int 1)))), (.var 1)]),
  .kill [4, 5]]
def t_faces_wanted (c_upper_face : Nat) (c_upper_mark : Nat) (c_lower_face : Nat) (c_lower_mark : Nat) : List Sm := [.own 3 (.dn (.dict0 true)),
  .for_ (.v 4) .rng1 [(.blt .len [(.var 0)])] (t_faces_wanted_l1 c_upper_face c_upper_mark c_lower_face c_lower_mark),
  .freeze 3,
  .ret (.var 3)]
abbrev S_faces_wanted (P : Prog) (f : Nat) : Prop := ∀ n (s : Stk) (sp : Str) (pg : List Int) M, Apart s → s.length ≤ 1000 → 2 * s.length ≤ pg.length → callN P (n + 3) f [encSt s, .str sp, iL pg] M = .ok (.z, .dic true ((fcsL (decide (sp = "head")) s pg s.length).map enF)) M
theorem p_faces_wanted {P : Prog} {f a b c d : Nat} (hP : P.fns[f]? = some ⟨3, 6, t_faces_wanted a b c d⟩) (h1 : S_upper_face P a) (h2 : S_upper_mark P b) (h3 : S_lower_face P c) (h4 : S_lower_mark P d) : S_faces_wanted P f := by
  intro n s sp pg M hs hl hp
  rw [callN_eq hP rfl]
  have lp := forL_N (M := M) (n := s.length) (body := forB (cfgN P (n + 2)) (.v 4) (t_faces_wanted_l1 a b c d)) (ρ0 := [.fz (encSt s), .fz (.str sp), .fz (iL pg), .ow (.s .z) (.dic true []), .un, .un])
    (fun i => [.fz (encSt s), .fz (.str sp), .fz (iL pg), .ow (.s .z) (.dic true ((fcsL (decide (sp = "head")) s pg i).map enF)), .un, .un]) rfl rfl fun i hi => by
      have n1 := putD_new (v := (upm (s.getD i default) (pg.getD (2 * i) default)).enc) (fcs_new (hd := decide (sp = "head")) (pg := pg) hs hi (.inl rfl))
      have n2 := putD_new (k := (s.getD i default).dn.enc) (v := (lwm (decide (sp = "head")) (s.getD i default) (pg.getD (2 * i + 1) default)).enc) (l := (fcsL (decide (sp = "head")) s pg i).map enF ++ [((s.getD i default).up.enc, (upm (s.getD i default) (pg.getD (2 * i) default)).enc)]) fun p hp => by
        rcases List.mem_append.mp hp with z | z
        · exact fcs_new hs hi (.inr rfl) p z
        · rw [List.mem_singleton.mp z]
          intro e
          exact up_dn (hs.f _ (mem_getD hi)) (Fce.inj e)
      have i0 : ixD (encSt s) (.int (i : Nat)) = some (s.getD i default).enc := by
        have := x_map (enc := Lay.enc) (l := s) (i := (i : Nat)) (by omega) (by omega)
        rw [Int.toNat_natCast] at this
        exact this
      have t0 : (2 * (i : Int)).toNat = 2 * i := by omega
      have t1 : (2 * (i : Int) + 1).toNat = 2 * i + 1 := by omega
      have hlen : ((fcsL (decide (sp = "head")) s pg i).map enF).length = 2 * i := by rw [List.length_map, fcsL_len]
      have k1 : okK true (s.getD i default).up.enc = true := rfl
      have k2 : okK true (s.getD i default).dn.enc = true := rfl
      generalize hL : (fcsL (decide (sp = "head")) s pg i).map enF = L at *
      have hl1 : L.length < 16777216 := by omega
      have hl2 : (L ++ [((s.getD i default).up.enc, (upm (s.getD i default) (pg.getD (2 * i) default)).enc)]).length < 16777216 := by simp; omega
      rw [fcsL_succ, List.map_append, hL]
      simp! only [forB, t_faces_wanted_l1, iL, i0, t0, t1, h1, h2, h3, h4, n1, n2]
      simp [enF]
  have sl : bltD .len [encSt s] = some (.int s.length) := by unfold encSt; rw [f_len, List.length_map]
  simp only [iL] at lp
  simp! only [t_faces_wanted, iL, sl, lp]
/-- the mark of a face -/
def fmk (hd : Bool) (s : Stk) (pg : List Int) (x : Fce) : Option Mk := ((fcsL hd s pg s.length).find? fun p => decide (p.1 = x)).map (·.2)
theorem look_enF {x : Fce} : ∀ {l : List (Fce × Mk)}, lookD x.enc (l.map enF) = ((l.find? fun p => decide (p.1 = x)).map (·.2)).map Mk.enc
  | [] => rfl
  | p :: l => by
    have ih := look_enF (x := x) (l := l)
    unfold lookD at ih ⊢
    rw [List.map_cons, List.find?_cons, List.find?_cons]
    by_cases h : p.1 = x
    · simp [h, enF]
    · have h2 : ¬ p.1.enc = x.enc := fun e => h (Fce.inj e)
      simp only [enF, h2, h, decide_false]
      exact ih
theorem find_uniq {l : List (Fce × Mk)} {x : Fce} {m : Mk} (hm : (x, m) ∈ l) (hu : ∀ p ∈ l, p.1 = x → p.2 = m) : (l.find? fun p => decide (p.1 = x)).map (·.2) = some m := by
  cases e : l.find? fun p => decide (p.1 = x) with
  | none =>
    have := List.find?_eq_none.mp e _ hm
    simp at this
  | some p =>
    have h1 := List.mem_of_find?_eq_some e
    have h2 := List.find?_some e
    simp only [decide_eq_true_eq] at h2
    simp [hu p h1 h2]
theorem fcs_uniq {hd : Bool} {s : Stk} {pg : List Int} (h : Apart s) {k : Nat} (hk : k < s.length) : ∀ p ∈ fcsL hd s pg s.length,
    (p.1 = (s.getD k default).up → p.2 = upm (s.getD k default) (pg.getD (2 * k) default)) ∧ (p.1 = (s.getD k default).dn → p.2 = lwm hd (s.getD k default) (pg.getD (2 * k + 1) default)) := by
  intro p hp
  simp only [fcsL, List.mem_flatMap, List.mem_range, List.mem_cons, List.not_mem_nil, or_false] at hp
  obtain ⟨j, hj, hp⟩ := hp
  have ud := up_dn (h.f (s.getD k default) (mem_getD hk))
  have ne : j ≠ k → (s.getD j default).rc ≠ (s.getD k default).rc := fun e => by
    rcases Nat.lt_or_gt_of_ne e with z | z
    · exact h.ne z hk
    · exact fun q => h.ne z hj q.symm
  by_cases e : j = k
  · subst e
    rcases hp with rfl | rfl
    · exact ⟨fun _ => rfl, fun z => absurd z ud⟩
    · exact ⟨fun z => absurd z.symm ud, fun _ => rfl⟩
  · have q := Fce.rc_ne (ne e)
    rcases hp with rfl | rfl
    · exact ⟨fun z => absurd z q.1, fun z => absurd z q.2.1⟩
    · exact ⟨fun z => absurd z q.2.2.1, fun z => absurd z q.2.2.2⟩
theorem fmk_up {hd : Bool} {s : Stk} {pg : List Int} (h : Apart s) {k : Nat} (hk : k < s.length) : fmk hd s pg (s.getD k default).up = some (upm (s.getD k default) (pg.getD (2 * k) default)) :=
  find_uniq (by
    simp only [fcsL, List.mem_flatMap, List.mem_range]
    exact ⟨k, hk, List.mem_cons_self⟩) fun p hp => (fcs_uniq h hk p hp).1
theorem fmk_dn {hd : Bool} {s : Stk} {pg : List Int} (h : Apart s) {k : Nat} (hk : k < s.length) : fmk hd s pg (s.getD k default).dn = some (lwm hd (s.getD k default) (pg.getD (2 * k + 1) default)) :=
  find_uniq (by
    simp only [fcsL, List.mem_flatMap, List.mem_range]
    exact ⟨k, hk, List.mem_cons_of_mem _ List.mem_cons_self⟩) fun p hp => (fcs_uniq h hk p hp).2
/-- the marks of a sheet -/
def impM (hd : Bool) (s : Stk) (pg : List Int) (sh : Int) (r c : Nat) : Mks := (List.range r).map fun (i : Nat) => (List.range c).map fun (j : Nat) => ⟨(fmk hd s pg ⟨sh, i, j, 0⟩).getD default, (fmk hd s pg ⟨sh, i, j, 1⟩).getD default⟩
/-- every place has its layer -/
theorem GoodSt.at_ {sh : Int} {r c : Nat} {s : Stk} (h : GoodSt sh r c s) {i j : Nat} (hi : i < r) (hj : j < c) : ∃ k, k < s.length ∧ (s.getD k default).row = i ∧ (s.getD k default).col = j := by
  have hm : (((i : Nat) : Int), ((j : Nat) : Int)) ∈ s.map Lay.rc := h.perm.mem_iff.mpr (due_mem.mpr ⟨i, j, hi, hj, rfl⟩)
  obtain ⟨l, hl, e⟩ := List.mem_map.mp hm
  obtain ⟨k, hk, e2⟩ := List.getElem_of_mem hl
  refine ⟨k, hk, ?_⟩
  rw [List.getD_eq_getElem?_getD, List.getElem?_eq_getElem hk, Option.getD_some, e2]
  simp only [Lay.rc, Prod.mk.injEq] at e
  exact e
theorem GoodSt.apart {sh : Int} {r c : Nat} {s : Stk} (h : GoodSt sh r c s) : Apart s := by
  obtain ⟨a, b, q⟩ := h.q
  exact ⟨h.nd, fun l hl => (q l hl).2.1⟩
/-- both marks of a place: by its layer -/
theorem fmk_at {hd : Bool} {sh : Int} {r c : Nat} {s : Stk} {pg : List Int} (h : GoodSt sh r c s) {i j k : Nat} (hk : k < s.length) (e1 : (s.getD k default).row = i) (e2 : (s.getD k default).col = j) :
    ((s.getD k default).fc = 0 ∧ fmk hd s pg ⟨sh, i, j, 0⟩ = some (upm (s.getD k default) (pg.getD (2 * k) default)) ∧ fmk hd s pg ⟨sh, i, j, 1⟩ = some (lwm hd (s.getD k default) (pg.getD (2 * k + 1) default))) ∨
    ((s.getD k default).fc = 1 ∧ fmk hd s pg ⟨sh, i, j, 1⟩ = some (upm (s.getD k default) (pg.getD (2 * k) default)) ∧ fmk hd s pg ⟨sh, i, j, 0⟩ = some (lwm hd (s.getD k default) (pg.getD (2 * k + 1) default))) := by
  obtain ⟨a, b, q⟩ := h.q
  obtain ⟨q1, q2, _⟩ := q _ (mem_getD (d := default) hk)
  have u := fmk_up (hd := hd) (pg := pg) h.apart hk
  have d := fmk_dn (hd := hd) (pg := pg) h.apart hk
  unfold Lay.up at u
  unfold Lay.dn at d
  rw [q1, e1, e2] at u d
  rcases q2 with z | z
  · rw [z] at u d; exact .inl ⟨z, u, d⟩
  · rw [z] at u d; exact .inr ⟨z, u, d⟩
theorem fmk_some {hd : Bool} {sh : Int} {r c : Nat} {s : Stk} {pg : List Int} (h : GoodSt sh r c s) {i j : Nat} (hi : i < r) (hj : j < c) : ∃ x y, fmk hd s pg ⟨sh, i, j, 0⟩ = some x ∧ fmk hd s pg ⟨sh, i, j, 1⟩ = some y := by
  obtain ⟨k, hk, e1, e2⟩ := h.at_ hi hj
  rcases fmk_at (hd := hd) (pg := pg) h hk e1 e2 with ⟨_, u, d⟩ | ⟨_, u, d⟩
  · exact ⟨_, _, u, d⟩
  · exact ⟨_, _, d, u⟩
/- marks_from(faces, sheet, rows, cols): 0=faces 1=sheet 2=rows 3=cols 4=found 5=row 6=cells 7=col -/
def t_marks_from_l1 : List Sm := [.mut 6 [] .app (.a (.e (.tup [(.dix (.var 0) (.tup [(.var 1), (.var 5), (.var 7), (.lit (.int 0))])), (.dix (.var 0) (.tup [(.var 1), (.var 5), (.var 7), (.lit (.int 1))]))]))),
  .kill [7]]
def t_marks_from_l2 : List Sm := [.own 6 (.dn (.lst [])),
  .for_ (.v 7) .rng1 [(.var 3)] (t_marks_from_l1),
  .freeze 6,
  .mut 4 [] .app (.a (.e (.var 6))),
  .kill [5, 6, 7]]
def t_marks_from : List Sm := [.own 4 (.dn (.lst [])),
  .for_ (.v 5) .rng1 [(.var 2)] (t_marks_from_l2),
  .freeze 4,
  .ret (.var 4)]
abbrev S_marks_from (P : Prog) (f : Nat) : Prop := ∀ n (hd : Bool) (s : Stk) (pg : List Int) (sh : Int) (r c : Nat) M, GoodSt sh r c s → r ≤ 1000 → c ≤ 1000 → callN P (n + 1) f [.dic true ((fcsL hd s pg s.length).map enF), .int sh, .int r, .int c] M = .ok (.z, encM (impM hd s pg sh r c)) M
theorem p_marks_from {P : Prog} {f : Nat} (hP : P.fns[f]? = some ⟨4, 8, t_marks_from⟩) : S_marks_from P f := by
  intro n hd s pg sh r c M hs hr hc
  rw [callN_eq hP rfl]
  have lk : ∀ (i j : Nat), i < r → j < c → lookD (.tup [.int sh, .int (i : Nat), .int (j : Nat), .int 0]) ((fcsL hd s pg s.length).map enF) = some ((fmk hd s pg ⟨sh, i, j, 0⟩).getD default).enc ∧
      lookD (.tup [.int sh, .int (i : Nat), .int (j : Nat), .int 1]) ((fcsL hd s pg s.length).map enF) = some ((fmk hd s pg ⟨sh, i, j, 1⟩).getD default).enc := fun i j hi hj => by
    obtain ⟨x, y, e1, e2⟩ := fmk_some (hd := hd) (pg := pg) hs hi hj
    have a := look_enF (x := ⟨sh, i, j, 0⟩) (l := fcsL hd s pg s.length)
    have b := look_enF (x := ⟨sh, i, j, 1⟩) (l := fcsL hd s pg s.length)
    have a' : _ = (fmk hd s pg ⟨sh, i, j, 0⟩).map Mk.enc := a
    have b' : _ = (fmk hd s pg ⟨sh, i, j, 1⟩).map Mk.enc := b
    rw [e1] at a' ⊢
    rw [e2] at b' ⊢
    exact ⟨a', b'⟩
  generalize hK : (fcsL hd s pg s.length).map enF = K at *
  have row : ∀ (i : Nat) (acc : List D), i < r → forL (forB (cfgN P n) (.v 7) t_marks_from_l1) (rngN c) [.fz (.dic true K), .fz (.int sh), .fz (.int r), .fz (.int c), .ow (.s .z) (.lst acc), .fz (.int (i : Nat)), .ow (.s .z) (.lst []), .un] M =
      .nx [.fz (.dic true K), .fz (.int sh), .fz (.int r), .fz (.int c), .ow (.s .z) (.lst acc), .fz (.int (i : Nat)), .ow (.s .z) (.lst ((List.range c).map fun (j : Nat) => (Cel.mk ((fmk hd s pg ⟨sh, i, j, 0⟩).getD default) ((fmk hd s pg ⟨sh, i, j, 1⟩).getD default)).enc)), .un] M := fun i acc hi =>
    forL_app0N (fun a => [.fz (.dic true K), .fz (.int sh), .fz (.int r), .fz (.int c), .ow (.s .z) (.lst acc), .fz (.int (i : Nat)), .ow (.s .z) (.lst a), .un]) (by omega) fun a j hj ha => by
      obtain ⟨k1, k2⟩ := lk i j hi hj
      simp! only [forB, t_marks_from_l1, k1, k2, Cel.enc]
  have all := forL_app0N (M := M) (body := forB (cfgN P n) (.v 5) t_marks_from_l2) (n := r) (fun a => [.fz (.dic true K), .fz (.int sh), .fz (.int r), .fz (.int c), .ow (.s .z) (.lst a), .un, .un, .un])
    (g := fun i => encMr ((List.range c).map fun (j : Nat) => ⟨(fmk hd s pg ⟨sh, i, j, 0⟩).getD default, (fmk hd s pg ⟨sh, i, j, 1⟩).getD default⟩)) (by omega) fun a i hi ha => by
      have := row i a hi
      simp! only [forB, t_marks_from_l2, this]
      simp only [encMr, List.map_map]; rfl
  simp! only [t_marks_from, all]
  simp only [encM, impM, List.map_map]; rfl
/- impose(rows, cols, folds, turning, spine, pages): 0=rows 1=cols 2=folds 3=turning 4=spine 5=pages 6=packet 7=stack -/
def t_impose (c_turned : Nat) (c_folded_all : Nat) (c_flat : Nat) (c_stack_of : Nat) (e_WrongCount : Nat) (c_marks_from : Nat) (c_faces_wanted : Nat) : List Sm := [.asg (.v 6) (.call c_turned [(.call c_folded_all [(.call c_flat [(.lit (.int 0)), (.var 0), (.var 1)]), (.var 2)]), (.var 3)]),
  .asg (.v 7) (.call c_stack_of [(.var 6)]),
  .ifs (.cmp .ne (.blt .len [(.var 5)]) (.bin .mul (.bin .mul (.lit (.int 2)) (.var 0)) (.var 1))) [.raise e_WrongCount] [],
  .ret (.call c_marks_from [(.call c_faces_wanted [(.var 7), (.var 4), (.var 5)]), (.lit (.int 0)), (.var 0), (.var 1)])]
abbrev S_impose (P : Prog) (f : Nat) : Prop := ∀ n (r c : Nat) (fs : List Fold) (m sp : Str) (pg : List Int) M, 1 ≤ r ∧ r ≤ 1000 → 1 ≤ c ∧ c ≤ 1000 → r * c ≤ 1000 → lead r c fs 1 1 → (m = "none" ∨ m = "V" ∨ m = "H" ∨ m = "spin") → pg.length = 2 * r * c →
  ∃ s, GoodSt 0 r c s ∧ callN P (n + 7) f [.int r, .int c, .lst (fs.map Fold.enc), .str m, .str sp, iL pg] M = .ok (.z, encM (impM (decide (sp = "head")) s pg 0 r c)) M
theorem p_impose {P : Prog} {f a b c d e g h : Nat} (hP : P.fns[f]? = some ⟨6, 8, t_impose a b c d e g h⟩) (h1 : S_turned P a) (h2 : S_folded_all P b) (h3 : S_flat P c) (h4 : S_stack_of P d) (h5 : S_marks_from P g) (h6 : S_faces_wanted P h) : S_impose P f := by
  intro n r c' fs m sp pg M hr hc hrc hl hm hpg
  have e1 := h3 (n + 5) 0 r c' M (by omega) (by omega)
  rw [Int.toNat_natCast, Int.toNat_natCast] at e1
  have hcnt : cnt (flatP 0 r c') ≤ 8000000 := by rw [flatP_cnt]; omega
  have e2 := h2 n (flatP 0 r c') r c' 1 1 fs M (flatP_shape 0 hr.1 hc.1) hr.2 hc.2 hl hcnt
  obtain ⟨s0, es, hs0⟩ := folded_good 0 hr.1 hc.1 hl
  rw [es] at e2
  obtain ⟨s, e3, hs⟩ := turn_good h1 (n + 2) hm hs0 M
  have e4 := h4 (n + 3) s M
  have len := hs.len
  have e5 := h6 (n + 3) s sp pg M hs.apart (by omega) (by rw [hpg, len, Nat.mul_assoc]; omega)
  have e6 := h5 (n + 5) (decide (sp = "head")) s pg 0 r c' M hs hr.2 hc.2
  refine ⟨s, hs, ?_⟩
  rw [callN_eq hP rfl]
  have lp : ((pg.length : Nat) : Int) = 2 * (r : Int) * (c' : Int) := by rw [hpg]; simp
  simp only [iL] at e5
  simp! only [t_impose, iL, e1, e2, e3, e4, e5, e6, lp]
end VL

/-! L8: the law's own fold, by spots -/
namespace VL
open PySem
/-! ### dicts whose keys are pairs -/
def enQ {α : Type} (e : α → D) (p : (Int × Int) × α) : D × D := (enP p.1, e p.2)
theorem enP_inj {p q : Int × Int} (h : enP p = enP q) : p = q := by
  unfold enP at h
  injection h with h
  injection h with h1 h2
  injection h1 with h1
  injection h2 with h2 _
  injection h2 with h2
  exact Prod.ext h1 h2
theorem putD_Q {α : Type} {e : α → D} {l : List ((Int × Int) × α)} {k : Int × Int} {v : D} (h : ∀ p ∈ l, p.1 ≠ k) : putD (enP k) v (l.map (enQ e)) = l.map (enQ e) ++ [(enP k, v)] := putD_new fun q hq => by
  obtain ⟨p, hp, rfl⟩ := List.mem_map.mp hq
  exact fun z => h p hp (enP_inj z)
def lookQ {α : Type} (k : Int × Int) (l : List ((Int × Int) × α)) : Option α := (l.find? fun p => decide (p.1 = k)).map (·.2)
theorem lookD_Q {α : Type} {e : α → D} {k : Int × Int} : ∀ {l : List ((Int × Int) × α)}, lookD (enP k) (l.map (enQ e)) = (lookQ k l).map e
  | [] => rfl
  | p :: l => by
    have ih := lookD_Q (e := e) (k := k) (l := l)
    unfold lookD lookQ at ih ⊢
    simp only [List.map_cons, List.find?_cons, enQ]
    by_cases h : p.1 = k
    · simp [h]
    · have h2 : ¬ enP p.1 = enP k := fun z => h (enP_inj z)
      simp only [h, h2, decide_false]
      exact ih
theorem lookQ_none {α : Type} {k : Int × Int} {l : List ((Int × Int) × α)} (h : ∀ p ∈ l, p.1 ≠ k) : lookQ k l = none := by
  unfold lookQ
  rw [List.find?_eq_none.mpr fun p hp => by simpa using h p hp]; rfl
theorem lookQ_some {α : Type} {k : Int × Int} {v : α} {l : List ((Int × Int) × α)} (h : (k, v) ∈ l) (u : ∀ p ∈ l, p.1 = k → p.2 = v) : lookQ k l = some v := by
  unfold lookQ
  cases e : l.find? fun p => decide (p.1 = k) with
  | none =>
    have := List.find?_eq_none.mp e (k, v) h
    simp at this
  | some p =>
    have h1 := List.find?_some e
    simp only [decide_eq_true_eq] at h1
    rw [Option.map_some, u p (List.mem_of_find?_eq_some e) h1]
theorem lookQ_isSome {α : Type} {k : Int × Int} {l : List ((Int × Int) × α)} : (lookQ k l).isSome = decide (k ∈ l.map (·.1)) := by
  unfold lookQ
  rw [Option.isSome_map, Bool.eq_iff_iff, List.find?_isSome]
  simp
/-! ### spots -/
def spot (v : Bool) (k t : Int) : Int × Int := if v then (t, k) else (k, t)
theorem spot_inj {v : Bool} {k t k' t' : Int} (h : spot v k t = spot v k' t') : k = k' ∧ t = t' := by
  cases v <;> (unfold spot at h; simp at h; omega)
/-- by rows: the strip, the place in it -/
def kt (v : Bool) (r c : Nat) : Nat × Nat := if v then (c, r) else (r, c)
def selB (x : Fold) (mv : Bool) (q : Nat × Nat) : Bool := mvB 0 x.at_ x.hi (kt x.v q.1 q.2).1 == mv
def posB (x : Fold) (mv : Bool) (k : Nat) : Int := if mv then 2 * (x.at_ : Int) - 1 - k else k
def entB (x : Fold) (mv : Bool) (p : Pk) (q : Nat × Nat) : (Int × Int) × Stk :=
  (spot x.v (posB x mv (kt x.v q.1 q.2).1) (kt x.v q.1 q.2).2, if mv then ovS x.v ((p.getD q.1 default).getD q.2 default) else (p.getD q.1 default).getD q.2 default)
def idxs (c : Nat) (i j : Nat) : List (Nat × Nat) := ((List.range i).flatMap fun a => (List.range c).map fun b => (a, b)) ++ (List.range j).map fun b => (i, b)
theorem idxs_s (c i j : Nat) : idxs c i (j + 1) = idxs c i j ++ [(i, j)] := by
  unfold idxs; rw [List.range_succ, List.map_append, List.append_assoc]; rfl
theorem idxs_n (c i : Nat) : idxs c (i + 1) 0 = idxs c i c := by
  unfold idxs; rw [List.range_succ, List.flatMap_append]; simp
theorem idxs_len (c i j : Nat) : (idxs c i j).length = i * c + j := by
  unfold idxs
  rw [List.length_append, List.length_map, List.length_range]
  congr 1
  induction i with
  | zero => simp
  | succ i ih => rw [List.range_succ, List.flatMap_append, List.length_append, ih]; simp [Nat.succ_mul]
theorem mem_idxs {c i j : Nat} {q : Nat × Nat} : q ∈ idxs c i j ↔ (q.1 < i ∧ q.2 < c) ∨ (q.1 = i ∧ q.2 < j) := by
  obtain ⟨a, b⟩ := q
  unfold idxs
  simp only [List.mem_append, List.mem_flatMap, List.mem_range, List.mem_map, Prod.mk.injEq]
  constructor
  · rintro (⟨a', h, b', h2, rfl, rfl⟩ | ⟨b', h, rfl, rfl⟩)
    · exact .inl ⟨h, h2⟩
    · exact .inr ⟨rfl, h⟩
  · rintro (⟨h, h2⟩ | ⟨rfl, h⟩)
    · exact .inl ⟨a, h, b, h2, rfl, rfl⟩
    · exact .inr ⟨b, h, rfl, rfl⟩
def spots (x : Fold) (mv : Bool) (p : Pk) (l : List (Nat × Nat)) : List ((Int × Int) × Stk) := (l.filter (selB x mv)).map (entB x mv p)
theorem ent_inj {x : Fold} {mv : Bool} {p : Pk} {q q' : Nat × Nat} (h : (entB x mv p q).1 = (entB x mv p q').1) : q = q' := by
  obtain ⟨e1, e2⟩ := spot_inj h
  obtain ⟨a, b⟩ := q
  obtain ⟨a', b'⟩ := q'
  unfold posB kt at e1
  unfold kt at e2
  cases mv <;> cases hv : x.v <;> simp [hv] at e1 e2 <;> (refine Prod.ext ?_ ?_ <;> simp only <;> omega)
theorem spots_new {x : Fold} {mv : Bool} {p : Pk} {l : List (Nat × Nat)} {q : Nat × Nat} (h : q ∉ l) : ∀ e ∈ spots x mv p l, e.1 ≠ (entB x mv p q).1 := fun e he z => by
  obtain ⟨q', h1, rfl⟩ := List.mem_map.mp he
  have := ent_inj z
  subst this
  exact h (List.mem_filter.mp h1).1
abbrev S__law_over2 (P : Prog) (f : Nat) : Prop := ∀ n (s : Stk) (v : Bool) M, s.length ≤ 1000000 → callN P (n + 1) f [encSt s, .str (lnS v)] M = .ok (.z, encSt (ovS v s)) M
theorem x_okP (p : Int × Int) : okK true (enP p) = true := rfl
theorem ln_H (v : Bool) : decide (lnS v = Str.ofString "H") = !v := by cases v <;> decide +kernel
/- _law_spots(packet, fold, moving): 0=packet 1=fold 2=moving 3=line 4=at 5=part 6=way 7=found 8=r 9=c 10=k 11=moved 12=stack 13=spot -/
def t__law_spots_l1 (c__law_over : Nat) : List Sm := [.asg (.v 10) (.var 9),
  .ifs (.cmp .eq (.var 3) (.lit (.str "H"))) [.asg (.v 10) (.var 8)] [],
  .asg (.v 11) (.cmp .eq (.cmp .ge (.var 10) (.var 4)) (.cmp .eq (.var 5) (.lit (.str "high")))),
  .ifs (.and [(.var 11), (.var 2)]) [.asg (.v 10) (.bin .sub (.bin .sub (.bin .mul (.lit (.int 2)) (.var 4)) (.lit (.int 1))) (.var 10)), .asg (.v 12) (.call c__law_over [(.ix (.ix (.var 0) (.var 8)) (.var 9)), (.var 3)])] [.asg (.v 12) (.blt .list [(.ix (.ix (.var 0) (.var 8)) (.var 9))])],
  .ifs (.cmp .eq (.var 11) (.var 2)) [.asg (.v 13) (.tup [(.var 8), (.var 10)]), .ifs (.cmp .eq (.var 3) (.lit (.str "H"))) [.asg (.v 13) (.tup [(.var 10), (.var 9)])] [], .dset 7 (.var 13) (.var 12), .kill [13]] [],
  .kill [9, 10, 11, 12, 13]]
def t__law_spots_l2 (c__law_over : Nat) : List Sm := [.for_ (.v 9) .rng1 [(.blt .len [(.ix (.var 0) (.lit (.int 0)))])] (t__law_spots_l1 c__law_over),
  .kill [8, 9, 10, 11, 12, 13]]
def t__law_spots (c__law_over : Nat) : List Sm := [.asg (.t [(.v 3), (.v 4), (.v 5), (.v 6)]) (.var 1),
  .own 7 (.dn (.dict0 true)),
  .for_ (.v 8) .rng1 [(.blt .len [(.var 0)])] (t__law_spots_l2 c__law_over),
  .freeze 7,
  .ret (.var 7)]
abbrev S__law_spots (P : Prog) (f : Nat) : Prop := ∀ n (p : Pk) (r c : Nat) (x : Fold) (mv : Bool) M, Shape p r c → r ≤ 1000 → c ≤ 1000 → (∀ a ∈ p, ∀ s ∈ a, s.length ≤ 1000000) → callN P (n + 2) f [encPk p, x.enc, .bl mv] M = .ok (.z, .dic true ((spots x mv p (idxs c r 0)).map (enQ encSt))) M
theorem p__law_spots {P : Prog} {f a : Nat} (hP : P.fns[f]? = some ⟨3, 14, t__law_spots a⟩) (h1 : S__law_over2 P a) : S__law_spots P f := by
  intro n p r c x mv M hp hr hc hs
  rw [callN_eq hP rfl]
  have inner : ∀ i, i < r → forL (forB (cfgN P (n + 1)) (.v 9) (t__law_spots_l1 a)) (rngN c) [.fz (encPk p), .fz x.enc, .fz (.bl mv), .fz (.str (lnS x.v)), .fz (.int x.at_), .fz (.str (ptS x.hi)), .fz (.str (wyS x.ov)), .ow (.s .z) (.dic true ((spots x mv p (idxs c i 0)).map (enQ encSt))), .fz (.int (i : Nat)), .un, .un, .un, .un, .un] M =
      .nx [.fz (encPk p), .fz x.enc, .fz (.bl mv), .fz (.str (lnS x.v)), .fz (.int x.at_), .fz (.str (ptS x.hi)), .fz (.str (wyS x.ov)), .ow (.s .z) (.dic true ((spots x mv p (idxs c i c)).map (enQ encSt))), .fz (.int (i : Nat)), .un, .un, .un, .un, .un] M := fun i hi => by
    refine forL_N (fun j => [.fz (encPk p), .fz x.enc, .fz (.bl mv), .fz (.str (lnS x.v)), .fz (.int x.at_), .fz (.str (ptS x.hi)), .fz (.str (wyS x.ov)), .ow (.s .z) (.dic true ((spots x mv p (idxs c i j)).map (enQ encSt))), .fz (.int (i : Nat)), .un, .un, .un, .un, .un]) rfl rfl fun j hj => ?_
    have g1 : p.getD i default ∈ p := mem_getD (by rw [hp.len]; exact hi)
    have g2 := hp.rect _ g1
    have g3 : (p.getD i default).getD j default ∈ p.getD i default := mem_getD (by rw [g2]; exact hj)
    have i1 : ixD (encPk p) (.int (i : Nat)) = some (encRow (p.getD i default)) := x_map (by omega) (by rw [hp.len]; omega)
    have i2 : ixD (encRow (p.getD i default)) (.int (j : Nat)) = some (encSt ((p.getD i default).getD j default)) := x_map (by omega) (by rw [g2]; omega)
    have e1 := h1 n ((p.getD i default).getD j default) x.v M (hs _ g1 _ g3)
    have ls : bltD .list [encSt ((p.getD i default).getD j default)] = some (encSt ((p.getD i default).getD j default)) := rfl
    have hl : (spots x mv p (idxs c i j)).length < 16777216 := by
      have h0 := idxs_len c i j
      have h2 : i * c ≤ 1000 * 1000 := Nat.mul_le_mul (by omega) (by omega)
      unfold spots
      rw [List.length_map]
      have := List.length_filter_le (selB x mv) (idxs c i j)
      omega
    have nn : (i, j) ∉ idxs c i j := fun z => by
      rcases mem_idxs.mp z with h | h
      · have := h.1; omega
      · have := h.2; omega
    have pq := putD_Q (e := encSt) (v := encSt (entB x mv p (i, j)).2) (spots_new (x := x) (mv := mv) (p := p) nn)
    have es : spots x mv p (idxs c i (j + 1)) = spots x mv p (idxs c i j) ++ (if selB x mv (i, j) = true then [entB x mv p (i, j)] else []) := by
      unfold spots
      rw [idxs_s, List.filter_append, List.map_append]
      congr 1
      cases h : selB x mv (i, j) <;> simp [h]
    rw [es]
    obtain ⟨v, at_, hi_, ov⟩ := x
    have hent : entB ⟨v, at_, hi_, ov⟩ mv p (i, j) = (spot v (posB ⟨v, at_, hi_, ov⟩ mv (kt v i j).1) (kt v i j).2, if mv then ovS v ((p.getD i default).getD j default) else (p.getD i default).getD j default) := rfl
    have hsel : selB ⟨v, at_, hi_, ov⟩ mv (i, j) = (mvB 0 at_ hi_ (kt v i j).1 == mv) := rfl
    rw [hent] at pq
    rw [hsel, hent]
    generalize spots ⟨v, at_, hi_, ov⟩ mv p (idxs c i j) = L at *
    generalize (p.getD i default).getD j default = s at *
    have bm : binD .mul (.int 2) (.int (at_ : Nat)) = some (.int (2 * (at_ : Nat))) := b_mul (.inl (by decide))
    have hv1 : decide (lnS v = Str.ofString "H") = !v := ln_H v
    cases v
    · have hm : mvB 0 at_ hi_ (kt false i j).1 = (decide ((at_ : Int) ≤ (i : Nat)) == hi_) := by unfold mvB kt; simp
      rw [hm]
      simp only [kt, spot, posB, enP, Bool.false_eq_true, if_false] at pq
      cases mv
      · by_cases h : (decide ((at_ : Int) ≤ (i : Nat)) = hi_)
        · have h2 : (decide ((at_ : Int) ≤ (i : Nat)) == hi_) = true := by rw [h]; simp
          simp! only [forB, t__law_spots_l1, hv1, hi_s, h, h2, i1, i2, ls]
          simp
        · have h2 : (decide ((at_ : Int) ≤ (i : Nat)) == hi_) = false := by simpa using h
          simp only [Bool.false_eq_true, if_false] at pq
          simp! only [forB, t__law_spots_l1, hv1, hi_s, h, h2, i1, i2, ls, pq]
          simp [enQ, enP, spot, kt, posB]
      · by_cases h : (decide ((at_ : Int) ≤ (i : Nat)) = hi_)
        · have h2 : (decide ((at_ : Int) ≤ (i : Nat)) == hi_) = true := by rw [h]; simp
          simp only [if_true] at pq
          simp! only [forB, t__law_spots_l1, hv1, hi_s, h, h2, i1, i2, e1, bm, pq]
          simp [enQ, enP, spot, kt, posB]
        · have h2 : (decide ((at_ : Int) ≤ (i : Nat)) == hi_) = false := by simpa using h
          simp! only [forB, t__law_spots_l1, hv1, hi_s, h, h2, i1, i2, ls]
          simp
    · have hm : mvB 0 at_ hi_ (kt true i j).1 = (decide ((at_ : Int) ≤ (j : Nat)) == hi_) := by unfold mvB kt; simp
      rw [hm]
      simp only [kt, spot, posB, enP, if_true] at pq
      cases mv
      · by_cases h : (decide ((at_ : Int) ≤ (j : Nat)) = hi_)
        · have h2 : (decide ((at_ : Int) ≤ (j : Nat)) == hi_) = true := by rw [h]; simp
          simp! only [forB, t__law_spots_l1, hv1, hi_s, h, h2, i1, i2, ls]
          simp
        · have h2 : (decide ((at_ : Int) ≤ (j : Nat)) == hi_) = false := by simpa using h
          simp only [Bool.false_eq_true, if_false] at pq
          simp! only [forB, t__law_spots_l1, hv1, hi_s, h, h2, i1, i2, ls, pq]
          simp [enQ, enP, spot, kt, posB]
      · by_cases h : (decide ((at_ : Int) ≤ (j : Nat)) = hi_)
        · have h2 : (decide ((at_ : Int) ≤ (j : Nat)) == hi_) = true := by rw [h]; simp
          simp only [if_true] at pq
          simp! only [forB, t__law_spots_l1, hv1, hi_s, h, h2, i1, i2, e1, bm, pq]
          simp [enQ, enP, spot, kt, posB]
        · have h2 : (decide ((at_ : Int) ≤ (j : Nat)) == hi_) = false := by simpa using h
          simp! only [forB, t__law_spots_l1, hv1, hi_s, h, h2, i1, i2, ls]
          simp
  have l0 : bltD .len [encRow (p.getD 0 default)] = some (.int c) := by
    unfold encRow
    rw [f_len, List.length_map, hp.rect _ (mem_getD (by rw [hp.len]; exact hp.r1))]
  have i0 : ixD (encPk p) (.int 0) = some (encRow (p.getD 0 default)) := x_map (by decide) (by rw [hp.len]; have := hp.r1; omega)
  have outer := forL_N (M := M) (n := r) (body := forB (cfgN P (n + 1)) (.v 8) (t__law_spots_l2 a)) (ρ0 := [.fz (encPk p), .fz x.enc, .fz (.bl mv), .fz (.str (lnS x.v)), .fz (.int x.at_), .fz (.str (ptS x.hi)), .fz (.str (wyS x.ov)), .ow (.s .z) (.dic true []), .un, .un, .un, .un, .un, .un])
    (fun i => [.fz (encPk p), .fz x.enc, .fz (.bl mv), .fz (.str (lnS x.v)), .fz (.int x.at_), .fz (.str (ptS x.hi)), .fz (.str (wyS x.ov)), .ow (.s .z) (.dic true ((spots x mv p (idxs c i 0)).map (enQ encSt))), .un, .un, .un, .un, .un, .un]) rfl rfl fun i hi => by
      have := inner i hi
      rw [idxs_n]
      simp! only [forB, t__law_spots_l2, i0, l0, this]
  have lp : bltD .len [encPk p] = some (.int r) := by unfold encPk; rw [f_len, List.length_map, hp.len]
  simp only [Fold.enc] at outer
  simp! only [t__law_spots, Fold.enc, lp, outer]

/-! ### what is found at a spot -/
theorem strips_at {x : Fold} {p : Pk} {r c : Nat} (hp : Shape p r c) {k t : Nat} (hk : k < (if x.v then c else r)) (ht : t < (if x.v then r else c)) : ((strips x.v p).getD k default).getD t default = if x.v then (p.getD t default).getD k default else (p.getD k default).getD t default := by
  cases hv : x.v
  · rfl
  · rw [hv] at hk ht
    simp only [if_true] at hk ht
    have l0 : (p.getD 0 []).length = c := hp.rect _ (mem_getD (by rw [hp.len]; exact hp.r1))
    rw [List.getD_eq_getElem?_getD] at l0
    have e1 : p[t]? = some (p.getD t default) := by
      rw [List.getD_eq_getElem?_getD, List.getElem?_eq_getElem (by rw [hp.len]; exact ht)]; rfl
    simp only [strips, if_true, cols, List.getD_eq_getElem?_getD, List.getElem?_map]
    rw [List.getElem?_range (by rw [l0]; exact hk)]
    simp only [Option.map_some, Option.getD_some, List.getElem?_map, e1]
def widS (x : Fold) (r c : Nat) : Nat := if x.v then r else c
/-- at a place of the folded packet: what is folded to it, what lies there -/
def mvC (x : Fold) (S : List Strip) (pos : Int) (t : Nat) : Option Stk := (mvAt x S pos).map fun s => s.getD t default
def stC (x : Fold) (S : List Strip) (pos : Int) (t : Nat) : Option Stk := (stAt x S pos).map fun s => s.getD t default
theorem kt_kt (v : Bool) (k t : Nat) : kt v (kt v k t).1 (kt v k t).2 = (k, t) := by cases v <;> rfl
theorem kt_lt {x : Fold} {r c k t : Nat} (hk : k < (if x.v then c else r)) (ht : t < widS x r c) : (kt x.v k t) ∈ idxs c r 0 := by
  rw [mem_idxs]
  unfold kt
  unfold widS at ht
  cases hv : x.v <;> simp [hv] at hk ht ⊢ <;> omega
theorem getD_some2 {α : Type} [Inhabited α] {S : List α} {k : Nat} (h : k < S.length) : S[k]? = some (S.getD k default) := by
  rw [List.getElem?_eq_getElem h, List.getD_eq_getElem?_getD, List.getElem?_eq_getElem h]; rfl
theorem getD_map {s : Strip} {v : Bool} {t : Nat} (h : t < s.length) : (s.map (ovS v)).getD t default = ovS v (s.getD t default) := by
  rw [List.getD_eq_getElem?_getD, List.getElem?_map, getD_some2 h]; rfl
theorem mv_spot {x : Fold} {p : Pk} {r c : Nat} (hp : Shape p r c) {pos : Int} {t : Nat} (ht : t < widS x r c) : lookQ (spot x.v pos t) (spots x true p (idxs c r 0)) = mvC x (strips x.v p) pos t := by
  have hS := hp.strips x.v
  unfold mvC mvAt
  split
  · rename_i h
    obtain ⟨h1, h2, h3⟩ := h
    generalize hk : (2 * (x.at_ : Int) - 1 - pos).toNat = k at h3 ⊢
    have hkn : k < (if x.v then c else r) := by rw [← hS.1]; omega
    have hw : t < (if x.v then r else c) := ht
    rw [Option.map_some, getD_map (by rw [hS.2 _ (mem_getD (by rw [hS.1]; exact hkn))]; exact hw), strips_at hp hkn hw]
    refine lookQ_some ?_ fun e he z => ?_
    · refine List.mem_map.mpr ⟨kt x.v k t, List.mem_filter.mpr ⟨kt_lt hkn ht, ?_⟩, ?_⟩
      · unfold selB
        rw [kt_kt]
        unfold mvB at h3 ⊢
        simpa using h3
      · unfold entB
        rw [kt_kt]
        refine Prod.ext ?_ ?_
        · simp only [posB, if_true]
          congr 1
          omega
        · simp only [if_true]
          cases hv : x.v <;> simp [kt]
    · obtain ⟨q, hq, rfl⟩ := List.mem_map.mp he
      have e2 : (entB x true p (kt x.v k t)).1 = spot x.v pos t := by
        unfold entB
        rw [kt_kt]
        simp only [posB, if_true]
        congr 1
        omega
      have := ent_inj (z.trans e2.symm)
      subst this
      unfold entB
      rw [kt_kt]
      simp only [if_true]
      cases hv : x.v <;> simp [kt]
  · rename_i h
    refine lookQ_none fun e he z => h ?_
    obtain ⟨q, hq, rfl⟩ := List.mem_map.mp he
    obtain ⟨g1, g2⟩ := List.mem_filter.mp hq
    obtain ⟨e1, e2⟩ := spot_inj z
    simp only [posB, if_true] at e1
    have hb := mem_idxs.mp g1
    have hk : (kt x.v q.1 q.2).1 < (strips x.v p).length := by
      rw [hS.1]
      unfold kt
      cases hv : x.v <;> simp <;> omega
    refine ⟨by omega, by omega, ?_⟩
    have : (2 * (x.at_ : Int) - 1 - pos).toNat = (kt x.v q.1 q.2).1 := by omega
    rw [this]
    unfold selB at g2
    unfold mvB at g2 ⊢
    simpa using g2
theorem st_spot {x : Fold} {p : Pk} {r c : Nat} (hp : Shape p r c) {pos : Int} {t : Nat} (ht : t < widS x r c) : lookQ (spot x.v pos t) (spots x false p (idxs c r 0)) = stC x (strips x.v p) pos t := by
  have hS := hp.strips x.v
  unfold stC stAt
  split
  · rename_i h
    obtain ⟨h1, h2, h3⟩ := h
    generalize hk : pos.toNat = k at h3 ⊢
    have hkn : k < (if x.v then c else r) := by rw [← hS.1]; omega
    have hw : t < (if x.v then r else c) := ht
    rw [Option.map_some, strips_at hp hkn hw]
    refine lookQ_some ?_ fun e he z => ?_
    · refine List.mem_map.mpr ⟨kt x.v k t, List.mem_filter.mpr ⟨kt_lt hkn ht, ?_⟩, ?_⟩
      · unfold selB
        rw [kt_kt]
        unfold mvB at h3 ⊢
        simpa using h3
      · unfold entB
        rw [kt_kt]
        refine Prod.ext ?_ ?_
        · simp only [posB, Bool.false_eq_true, if_false]
          congr 1
          omega
        · simp only [Bool.false_eq_true, if_false]
          cases hv : x.v <;> simp [kt]
    · obtain ⟨q, hq, rfl⟩ := List.mem_map.mp he
      have e2 : (entB x false p (kt x.v k t)).1 = spot x.v pos t := by
        unfold entB
        rw [kt_kt]
        simp only [posB, Bool.false_eq_true, if_false]
        congr 1
        omega
      have := ent_inj (z.trans e2.symm)
      subst this
      unfold entB
      rw [kt_kt]
      simp only [Bool.false_eq_true, if_false]
      cases hv : x.v <;> simp [kt]
  · rename_i h
    refine lookQ_none fun e he z => h ?_
    obtain ⟨q, hq, rfl⟩ := List.mem_map.mp he
    obtain ⟨g1, g2⟩ := List.mem_filter.mp hq
    obtain ⟨e1, e2⟩ := spot_inj z
    simp only [posB, Bool.false_eq_true, if_false] at e1
    have hb := mem_idxs.mp g1
    have hk : (kt x.v q.1 q.2).1 < (strips x.v p).length := by
      rw [hS.1]
      unfold kt
      cases hv : x.v <;> simp <;> omega
    refine ⟨by omega, by omega, ?_⟩
    have : pos.toNat = (kt x.v q.1 q.2).1 := by omega
    rw [this]
    unfold selB at g2
    unfold mvB at g2 ⊢
    simpa using g2
/-! ### all spots, in order -/
theorem idxs_ind {c : Nat} {Q : List (Nat × Nat) → Prop} (h0 : Q []) (hs : ∀ i j, j < c → Q (idxs c i j) → Q (idxs c i j ++ [(i, j)])) : ∀ i, Q (idxs c i 0)
  | 0 => h0
  | i + 1 => by
    rw [idxs_n]
    have : ∀ j, j ≤ c → Q (idxs c i j) := fun j => by
      induction j with
      | zero => exact fun _ => idxs_ind h0 hs i
      | succ j ih => exact fun hj => by rw [idxs_s]; exact hs i j (by omega) (ih (by omega))
    exact this c (Nat.le_refl _)
theorem idxs_nodup (c i : Nat) : (idxs c i 0).Nodup := idxs_ind .nil (fun i j hj h => by
  rw [List.nodup_append]
  refine ⟨h, by simp, fun a ha b hb e => ?_⟩
  rw [List.mem_singleton] at hb
  subst hb; subst e
  rcases mem_idxs.mp ha with z | z <;> (simp at z)) i
def rectL (a b : Int) (l : List (Nat × Nat)) : List (Int × Int) := l.map fun q => (a + (q.1 : Nat), b + (q.2 : Nat))
theorem rectL_sorted (a b : Int) (c i : Nat) : (rectL a b (idxs c i 0)).Pairwise fun p q => lePB p q = true := idxs_ind (Q := fun l => (rectL a b l).Pairwise fun p q => lePB p q = true) .nil (fun i j hj h => by
  unfold rectL at h ⊢
  rw [List.map_append, List.pairwise_append]
  refine ⟨h, by simp, fun p hp q hq => ?_⟩
  obtain ⟨p', h1, rfl⟩ := List.mem_map.mp hp
  simp only [List.map_cons, List.map_nil, List.mem_singleton] at hq
  subst hq
  unfold lePB
  rw [decide_eq_true_eq]
  rcases mem_idxs.mp h1 with z | z <;> (simp only; omega)) i
theorem rectL_nodup (a b : Int) (c i : Nat) : (rectL a b (idxs c i 0)).Nodup := by
  unfold rectL List.Nodup
  refine List.Pairwise.map _ (fun p q h e => h ?_) (idxs_nodup c i)
  simp only [Prod.mk.injEq] at e
  exact Prod.ext (by omega) (by omega)
theorem perm_nodup {l l' : List (Int × Int)} (h : l.Nodup) (h' : l'.Nodup) (e : ∀ q, q ∈ l ↔ q ∈ l') : l.Perm l' := by
  rw [List.perm_iff_count]
  intro q
  rw [h.count, h'.count]
  by_cases z : q ∈ l
  · rw [if_pos z, if_pos ((e q).mp z)]
  · rw [if_neg z, if_neg fun y => z ((e q).mpr y)]
def keysQ (x : Fold) (mv : Bool) (p : Pk) (l : List (Nat × Nat)) : List (Int × Int) := (spots x mv p l).map (·.1)
theorem keysQ_nodup (x : Fold) (mv : Bool) (p : Pk) (c i : Nat) : (keysQ x mv p (idxs c i 0)).Nodup := by
  unfold keysQ spots List.Nodup
  rw [List.map_map]
  exact List.Pairwise.map _ (fun a b h e => h (ent_inj e)) (List.Pairwise.filter _ (idxs_nodup c i))
theorem keysQ_form {x : Fold} {mv : Bool} {p : Pk} {r c : Nat} {q : Int × Int} (h : q ∈ keysQ x mv p (idxs c r 0)) : ∃ (pos : Int) (t : Nat), t < widS x r c ∧ q = spot x.v pos t := by
  unfold keysQ spots at h
  rw [List.map_map] at h
  obtain ⟨a, ha, rfl⟩ := List.mem_map.mp h
  have hb := mem_idxs.mp (List.mem_filter.mp ha).1
  refine ⟨_, (kt x.v a.1 a.2).2, ?_, rfl⟩
  unfold widS kt
  cases hv : x.v <;> simp <;> omega
theorem keysQ_mv {x : Fold} {p : Pk} {r c : Nat} (hp : Shape p r c) {pos : Int} {t : Nat} (ht : t < widS x r c) : spot x.v pos t ∈ keysQ x true p (idxs c r 0) ↔ (mvAt x (strips x.v p) pos).isSome = true := by
  have := lookQ_isSome (k := spot x.v pos t) (l := spots x true p (idxs c r 0))
  rw [mv_spot hp ht] at this
  unfold mvC at this
  rw [Option.isSome_map] at this
  unfold keysQ
  rw [this, decide_eq_true_eq]
theorem keysQ_st {x : Fold} {p : Pk} {r c : Nat} (hp : Shape p r c) {pos : Int} {t : Nat} (ht : t < widS x r c) : spot x.v pos t ∈ keysQ x false p (idxs c r 0) ↔ (stAt x (strips x.v p) pos).isSome = true := by
  have := lookQ_isSome (k := spot x.v pos t) (l := spots x false p (idxs c r 0))
  rw [st_spot hp ht] at this
  unfold stC at this
  rw [Option.isSome_map] at this
  unfold keysQ
  rw [this, decide_eq_true_eq]
theorem mvAt_in {x : Fold} {S : List Strip} (ok : x.Ok S.length) {pos : Int} (h : (mvAt x S pos).isSome = true) : fst_ S.length x.at_ x.hi ≤ pos ∧ pos < stp_ S.length x.at_ x.hi := by
  have h1 := ok.lo
  have h2 := ok.hi
  unfold mvAt at h
  split at h
  · rename_i g
    obtain ⟨g1, g2, g3⟩ := g
    unfold mvB at g3
    unfold fst_ stp_
    cases hh : x.hi <;> simp [hh] at g3 ⊢ <;> omega
  · cases h
theorem stAt_in {x : Fold} {S : List Strip} (ok : x.Ok S.length) {pos : Int} (h : (stAt x S pos).isSome = true) : fst_ S.length x.at_ x.hi ≤ pos ∧ pos < stp_ S.length x.at_ x.hi := by
  have h1 := ok.lo
  have h2 := ok.hi
  unfold stAt at h
  split at h
  · rename_i g
    obtain ⟨g1, g2, g3⟩ := g
    unfold mvB at g3
    unfold fst_ stp_
    cases hh : x.hi <;> simp [hh] at g3 ⊢ <;> omega
  · cases h
/-- rows, columns of the folded packet; where they begin -/
def rowN (x : Fold) (S : List Strip) (w : Nat) : Nat := if x.v then w else numP x S
def colN (x : Fold) (S : List Strip) (w : Nat) : Nat := if x.v then numP x S else w
def rowA (x : Fold) (S : List Strip) : Int := if x.v then 0 else fst_ S.length x.at_ x.hi
def colA (x : Fold) (S : List Strip) : Int := if x.v then fst_ S.length x.at_ x.hi else 0
theorem all_spots {x : Fold} {p : Pk} {r c : Nat} (hp : Shape p r c) (ok : OkF x r c) :
    sortP (keysQ x true p (idxs c r 0) ++ (keysQ x false p (idxs c r 0)).filter fun q => !decide (q ∈ keysQ x true p (idxs c r 0))) =
      rectL (rowA x (strips x.v p)) (colA x (strips x.v p)) (idxs (colN x (strips x.v p) (widS x r c)) (rowN x (strips x.v p) (widS x r c)) 0) := by
  have okS := ok.strips hp
  refine (sortP_uniq (perm_nodup (rectL_nodup _ _ _ _) ?_ fun q => ?_) (rectL_sorted _ _ _ _)).symm
  · rw [List.nodup_append]
    refine ⟨keysQ_nodup _ _ _ _ _, List.Pairwise.filter _ (keysQ_nodup _ _ _ _ _), fun a ha b hb e => ?_⟩
    subst e
    have := (List.mem_filter.mp hb).2
    simp [ha] at this
  · have num : numP x (strips x.v p) = (stp_ (strips x.v p).length x.at_ x.hi - fst_ (strips x.v p).length x.at_ x.hi).toNat := rfl
    generalize hS : strips x.v p = S at *
    constructor
    · intro h
      obtain ⟨a, ha, rfl⟩ := List.mem_map.mp h
      have hb := mem_idxs.mp ha
      -- the place
      obtain ⟨i, t, hi, ht, e⟩ : ∃ (i t : Nat), i < numP x S ∧ t < widS x r c ∧ ((rowA x S + (a.1 : Nat), colA x S + (a.2 : Nat)) : Int × Int) = spot x.v (fst_ S.length x.at_ x.hi + (i : Nat)) t := by
        unfold rowN colN at hb
        unfold rowA colA spot
        cases hv : x.v
        · rw [hv] at hb
          simp only [Bool.false_eq_true, if_false] at hb
          exact ⟨a.1, a.2, by omega, by omega, by simp⟩
        · rw [hv] at hb
          simp only [if_true] at hb
          exact ⟨a.2, a.1, by omega, by omega, by simp⟩
      rw [e]
      have nn := some_at okS hi
      by_cases hm : (mvAt x S (fst_ S.length x.at_ x.hi + (i : Nat))).isSome = true
      · refine List.mem_append.mpr (.inl ?_)
        rw [keysQ_mv hp ht, hS]; exact hm
      · refine List.mem_append.mpr (.inr (List.mem_filter.mpr ⟨?_, ?_⟩))
        · rw [keysQ_st hp ht, hS]
          cases e2 : stAt x S (fst_ S.length x.at_ x.hi + (i : Nat)) with
          | some _ => rfl
          | none => exact absurd ⟨by simpa using hm, e2⟩ nn
        · have : ¬ spot x.v (fst_ S.length x.at_ x.hi + (i : Nat)) t ∈ keysQ x true p (idxs c r 0) := fun z => by
            rw [keysQ_mv hp ht, hS] at z
            exact hm z
          simp [this]
    · intro h
      have key : ∃ (pos : Int) (t : Nat), t < widS x r c ∧ q = spot x.v pos t ∧ fst_ S.length x.at_ x.hi ≤ pos ∧ pos < stp_ S.length x.at_ x.hi := by
        rcases List.mem_append.mp h with h | h
        · obtain ⟨pos, t, ht, e⟩ := keysQ_form h
          refine ⟨pos, t, ht, e, mvAt_in okS ?_⟩
          rw [e, keysQ_mv hp ht, hS] at h
          exact h
        · have h := (List.mem_filter.mp h).1
          obtain ⟨pos, t, ht, e⟩ := keysQ_form h
          refine ⟨pos, t, ht, e, stAt_in okS ?_⟩
          rw [e, keysQ_st hp ht, hS] at h
          exact h
      obtain ⟨pos, t, ht, rfl, p1, p2⟩ := key
      unfold rectL
      refine List.mem_map.mpr ⟨if x.v then (t, (pos - fst_ S.length x.at_ x.hi).toNat) else ((pos - fst_ S.length x.at_ x.hi).toNat, t), ?_, ?_⟩
      · rw [mem_idxs]
        unfold rowN colN
        cases hv : x.v <;> simp <;> omega
      · unfold rowA colA spot
        cases hv : x.v <;> simp <;> omega
/-! ### the folded packet, cell by cell -/
theorem both_get {m s : Option Strip} {w : Nat} (h : ¬ (m = none ∧ s = none)) (hm : ∀ r, m = some r → r.length = w) (hs : ∀ r, s = some r → r.length = w) : (bothP m s).length = w ∧ ∀ t, t < w → (bothP m s).getD t default = (m.map fun r => r.getD t default, s.map fun r => r.getD t default) := by
  cases m with
  | none =>
    cases s with
    | none => exact absurd ⟨rfl, rfl⟩ h
    | some s =>
      have l := hs s rfl
      refine ⟨by simp [bothP, l], fun t ht => ?_⟩
      simp only [bothP, List.getD_eq_getElem?_getD, List.getElem?_map]
      rw [List.getElem?_eq_getElem (by omega)]; simp only [Option.map_some, Option.map_none, Option.getD_some, List.getElem?_eq_getElem (show t < s.length by omega)]
  | some m =>
    have l := hm m rfl
    cases s with
    | none =>
      refine ⟨by simp [bothP, l], fun t ht => ?_⟩
      simp only [bothP, List.getD_eq_getElem?_getD, List.getElem?_map]
      rw [List.getElem?_eq_getElem (by omega)]; simp only [Option.map_some, Option.map_none, Option.getD_some, List.getElem?_eq_getElem (show t < m.length by omega)]
    | some s =>
      have l2 := hs s rfl
      refine ⟨by simp [bothP, l, l2], fun t ht => ?_⟩
      simp only [bothP, List.getD_eq_getElem?_getD, List.getElem?_map]
      rw [List.getElem?_eq_getElem (by simp; omega)]
      simp only [Option.map_some, Option.getD_some, List.getElem?_eq_getElem (show t < s.length by omega), List.getElem?_eq_getElem (show t < m.length by omega), List.getElem_zip]
def cellQ (x : Fold) (S : List Strip) (pos : Int) (t : Nat) : Stk := lay2 x.ov ((mvC x S pos t).getD []) ((stC x S pos t).getD [])
theorem layC_get (o : Bool) (m s : Option Stk) : layC o (m, s) = lay2 o (m.getD []) (s.getD []) := by
  cases m <;> cases s <;> cases o <;> simp [layC, lay2]
theorem list_rg {α : Type} [Inhabited α] (l : List α) : l = (List.range l.length).map fun i => l.getD i default := by
  have := rg_id (fun x : α => x) default l
  simp at this
  exact this.symm
theorem lay_both {x : Fold} {S : List Strip} {w : Nat} (ok : x.Ok S.length) (hr : RectG S w) {i t : Nat} (hi : i < numP x S) (ht : t < w) :
    layC x.ov ((bothP (mvAt x S (fst_ S.length x.at_ x.hi + (i : Nat))) (stAt x S (fst_ S.length x.at_ x.hi + (i : Nat)))).getD t default) = cellQ x S (fst_ S.length x.at_ x.hi + (i : Nat)) t := by
  rw [(both_get (some_at ok hi) (fun r h => mvAt_len hr h) fun r h => stAt_len hr h).2 t ht, layC_get]; rfl
theorem foldP_cells {x : Fold} {p : Pk} {r c : Nat} (hp : Shape p r c) (ok : OkF x r c) : foldP x p = (List.range (rowN x (strips x.v p) (widS x r c))).map fun i => (List.range (colN x (strips x.v p) (widS x r c))).map fun j =>
    if x.v then cellQ x (strips x.v p) (fst_ (strips x.v p).length x.at_ x.hi + (j : Nat)) i else cellQ x (strips x.v p) (fst_ (strips x.v p).length x.at_ x.hi + (i : Nat)) j := by
  have okS := ok.strips hp
  have hS := hp.strips x.v
  have hr : RectG (strips x.v p) (widS x r c) := hS.2
  have np := numP_pos okS
  unfold foldP
  generalize hv : strips x.v p = S at *
  generalize widS x r c = w at *
  have lb : ∀ i, i < numP x S → (bothP (mvAt x S (fst_ S.length x.at_ x.hi + (i : Nat))) (stAt x S (fst_ S.length x.at_ x.hi + (i : Nat)))).length = w := fun i hi => (both_get (some_at okS hi) (fun r h => mvAt_len hr h) fun r h => stAt_len hr h).1
  unfold rowN colN
  cases hx : x.v
  · simp only [strips, Bool.false_eq_true, if_false, ovl, List.map_map]
    apply List.map_congr_left
    intro i hi
    have hi := List.mem_range.mp hi
    simp only [Function.comp_apply]
    rw [list_rg (bothP _ _), List.map_map, lb i hi]
    apply List.map_congr_left
    intro t ht
    exact lay_both okS hr hi (List.mem_range.mp ht)
  · have e0 : ((ovl x S).getD 0 []).length = w := by
      unfold ovl
      rw [List.getD_eq_getElem?_getD, List.getElem?_map, List.getElem?_range np.1]
      exact lb 0 np.1
    simp only [strips, if_true, cols, e0, List.map_map]
    apply List.map_congr_left
    intro t ht
    have ht := List.mem_range.mp ht
    simp only [Function.comp_apply, ovl, List.map_map]
    apply List.map_congr_left
    intro i hi
    exact lay_both okS hr (List.mem_range.mp hi) ht
/-! ### the walk of _law_fold -/
def Runs (f : D → Sl → Mem → RS) (M : Mem) : List D → Sl → Sl → Prop
  | [], ρ, ρ' => ρ = ρ'
  | d :: l, ρ, ρ' => ∃ ρ1, f d ρ M = .nx ρ1 M ∧ Runs f M l ρ1 ρ'
theorem Runs.forL {f : D → Sl → Mem → RS} {M : Mem} : ∀ {l : List D} {ρ ρ' : Sl}, Runs f M l ρ ρ' → VL.forL f l ρ M = .nx ρ' M
  | [], _, _, h => by cases h; rfl
  | d :: l, ρ, ρ', ⟨ρ1, h, r⟩ => by
    simp only [VL.forL, h]
    exact r.forL
theorem Runs.snoc {f : D → Sl → Mem → RS} {M : Mem} {d : D} {ρ1 ρ2 : Sl} (h : f d ρ1 M = .nx ρ2 M) : ∀ {l : List D} {ρ : Sl}, Runs f M l ρ ρ1 → Runs f M (l ++ [d]) ρ ρ2
  | [], _, e => by cases e; exact ⟨ρ2, h, rfl⟩
  | x :: l, ρ, ⟨ρ3, h3, r⟩ => ⟨ρ3, h3, r.snoc h⟩
/-- a walk over all places, row by row -/
theorem forL_idxs {f : D → Sl → Mem → RS} {M : Mem} {e : Nat × Nat → D} {c : Nat} (st : Nat → Nat → Sl) {R : Nat} (hs : ∀ i j, i < R → j < c → f (e (i, j)) (st i j) M = .nx (st i (j + 1)) M) (hn : ∀ i, st i c = st (i + 1) 0) : forL f ((idxs c R 0).map e) (st 0 0) M = .nx (st R 0) M := by
  have : ∀ r, r ≤ R → Runs f M ((idxs c r 0).map e) (st 0 0) (st r 0) := fun r => by
    induction r with
    | zero => exact fun _ => rfl
    | succ r ih =>
      intro hr
      rw [idxs_n, ← hn]
      have k : ∀ j, j ≤ c → Runs f M ((idxs c r j).map e) (st 0 0) (st r j) := by
        intro j
        induction j with
        | zero => intro _; exact ih (by omega)
        | succ j ih2 =>
          intro hj
          rw [idxs_s, List.map_append]
          exact (ih2 (by omega)).snoc (hs r j (by omega) (by omega))
      exact k c (Nat.le_refl _)
  exact (this R (Nat.le_refl _)).forL
theorem keys_Q {α : Type} {e : α → D} {l : List ((Int × Int) × α)} : (l.map (enQ e)).map (·.1) = (l.map (·.1)).map enP := by
  rw [List.map_map, List.map_map]; rfl
/- _law_fold(packet, fold): 0=packet 1=fold 2=moved 3=still 4=spots 5=found 6=last 7=spot 8=above 9=below -/
def t__law_fold_l1 (c__law_spots : Nat) : List Sm := [.ifs (.or [(.isN (.var 6) false), (.cmp .ne (.ix (.var 7) (.lit (.int 0))) (.var 6))]) [.mut 5 [] .app (.a (.lst [])), .asg (.v 6) (.ix (.var 7) (.lit (.int 0)))] [],
  .asg (.v 8) (.dget (.var 2) (.var 7) (some (.lst []))),
  .asg (.v 9) (.dget (.var 3) (.var 7) (some (.lst []))),
  .ifs (.cmp .eq (.ix (.var 1) (.lit (.int 3))) (.lit (.str "over"))) [.mut 5 [(.bin .sub (.bor (.blt .len [(.var 5)])) (.lit (.int 1)))] .app (.a (.fr (.bin .add (.var 8) (.var 9))))] [.mut 5 [(.bin .sub (.bor (.blt .len [(.var 5)])) (.lit (.int 1)))] .app (.a (.fr (.bin .add (.var 9) (.var 8))))],
  .kill [7, 8, 9]]
def t__law_fold (c__law_spots : Nat) : List Sm := [.asg (.v 2) (.call c__law_spots [(.var 0), (.var 1), (.lit (.bl true))]),
  .asg (.v 3) (.call c__law_spots [(.var 0), (.var 1), (.lit (.bl false))]),
  .asg (.v 4) (.blt .sorted [(.bin .add (.blt .list [(.var 2)]) (.comp (.var 7) (.v 7) .keys [(.var 3)] [(.din (.var 7) (.var 2) true)] [7]))]),
  .own 5 (.lst []),
  .asg (.v 6) (.lit .non),
  .for_ (.v 7) .seq [(.var 4)] (t__law_fold_l1 c__law_spots),
  .freeze 5,
  .ret (.var 5)]
theorem fr_lay (X Y : Stk) : frA (.lst (X.map Lay.enc ++ Y.map Lay.enc)) = some (.all, .lst (X.map Lay.enc ++ Y.map Lay.enc)) := fr_flat (by
  rw [List.all_eq_true]
  intro d hd
  rcases List.mem_append.mp hd with h | h <;> (obtain ⟨l, _, rfl⟩ := List.mem_map.mp h; rfl))
theorem last_get {Z Y : List D} {k : Int} (hk : k = (Z.length : Nat)) : getL (.lst (Z ++ [.lst Y])) [.int k] = some Y := by
  subst hk
  exact getL_of ((getP_nat (d := .lst Y) (by simp)).trans rfl)
theorem last_set {Z Y : List D} {x : D} {k : Int} (hk : k = (Z.length : Nat)) : setP (.lst (Z ++ [.lst Y])) [.int k] x = .lst (Z ++ [x]) := by
  subst hk
  rw [setP_nat (d := .lst Y) (by simp)]
  simp [setP]
/-- the packet as far as it is found: rows that are whole, a row begun -/
def fnd (cell : Nat → Nat → Stk) (C i j : Nat) : List D := (List.range i).map (fun a => .lst ((List.range C).map fun b => encSt (cell a b))) ++ (if j = 0 then [] else [.lst ((List.range j).map fun b => encSt (cell i b))])
def lastD (a : Int) (i j : Nat) : D := if j = 0 then (if i = 0 then .non else .int (a + (i - 1 : Nat))) else .int (a + (i : Nat))
theorem fnd_full {cell : Nat → Nat → Stk} {C i : Nat} (h : 0 < C) : fnd cell C (i + 1) 0 = fnd cell C i C := by
  unfold fnd
  rw [if_pos rfl, if_neg (by omega), List.range_succ, List.map_append, List.append_nil]; rfl
theorem fnd_one {cell : Nat → Nat → Stk} {C i : Nat} : fnd cell C i 0 ++ [.lst [encSt (cell i 0)]] = fnd cell C i 1 := by
  unfold fnd
  rw [if_pos rfl, if_neg (by omega), List.append_nil]; rfl
theorem fnd_more {cell : Nat → Nat → Stk} {C i j : Nat} (h : 0 < j) : fnd cell C i j = fnd cell C i 0 ++ [.lst ((List.range j).map fun b => encSt (cell i b))] := by
  unfold fnd
  rw [if_neg (by omega), if_pos rfl, List.append_nil]
theorem fnd_len {cell : Nat → Nat → Stk} {C i : Nat} : (fnd cell C i 0).length = i := by
  unfold fnd; simp
abbrev S__law_fold (P : Prog) (f : Nat) : Prop := ∀ n (p : Pk) (r c : Nat) (x : Fold) M, Shape p r c → r ≤ 1000 → c ≤ 1000 → OkF x r c → cnt p ≤ 1000000 → memOk M = true → callN P (n + 3) f [encPk p, x.enc] M = .ok (.z, encPk (foldP x p)) M
theorem p__law_fold {P : Prog} {f a : Nat} (hP : P.fns[f]? = some ⟨2, 10, t__law_fold a⟩) (h1 : S__law_spots P a) : S__law_fold P f := by
  intro n p r c x M hp hr hc ok ht hM
  rw [callN_eq hP rfl]
  have hl : ∀ a ∈ p, ∀ s ∈ a, s.length ≤ 1000000 := fun a ha s hs => by have := cnt_mem ha hs; omega
  have e1 := h1 n p r c x true M hp hr hc hl
  have e2 := h1 n p r c x false M hp hr hc hl
  have as := all_spots hp ok
  have fc := foldP_cells hp ok
  have hS := hp.strips x.v
  have np := numP_pos (ok.strips hp)
  have mq : ∀ pos t, t < widS x r c → lookQ (spot x.v pos t) (spots x true p (idxs c r 0)) = mvC x (strips x.v p) pos t := fun pos t ht => mv_spot hp ht
  have sq : ∀ pos t, t < widS x r c → lookQ (spot x.v pos t) (spots x false p (idxs c r 0)) = stC x (strips x.v p) pos t := fun pos t ht => st_spot hp ht
  have k1 : keysQ x true p (idxs c r 0) = (spots x true p (idxs c r 0)).map (·.1) := rfl
  have k2 : keysQ x false p (idxs c r 0) = (spots x false p (idxs c r 0)).map (·.1) := rfl
  have is1 : ∀ k, (lookQ k (spots x true p (idxs c r 0))).isSome = decide (k ∈ keysQ x true p (idxs c r 0)) := fun k => lookQ_isSome
  have l1 : (spots x true p (idxs c r 0)).length ≤ 1000000 := by
    unfold spots
    rw [List.length_map]
    have := List.length_filter_le (selB x true) (idxs c r 0)
    rw [idxs_len] at this
    have h2 : r * c ≤ 1000 * 1000 := Nat.mul_le_mul (by omega) (by omega)
    omega
  have l2 : (spots x false p (idxs c r 0)).length ≤ 1000000 := by
    unfold spots
    rw [List.length_map]
    have := List.length_filter_le (selB x false) (idxs c r 0)
    rw [idxs_len] at this
    have h2 : r * c ≤ 1000 * 1000 := Nat.mul_le_mul (by omega) (by omega)
    omega
  generalize spots x true p (idxs c r 0) = A at *
  generalize spots x false p (idxs c r 0) = B at *
  generalize keysQ x true p (idxs c r 0) = KA at *
  generalize keysQ x false p (idxs c r 0) = KB at *
  have hf : (KB.filter fun q => decide ((((lookQ q A).map encSt).isSome != true) = true)) = KB.filter fun q => !decide (q ∈ KA) := by
    apply List.filter_congr
    intro q _
    rw [Option.isSome_map, is1]
    by_cases h : q ∈ KA <;> simp [h]
  have stepA : ∀ (s4 : SV) (Z : List D) (q : Int × Int) (lst : D) (ab bl : Option Stk), Z.length < 1000000 → (lst = .non ∨ ∃ z, lst = .int z ∧ ¬ q.1 = z) → (ab.getD []).length + (bl.getD []).length ≤ 16777216 → lookQ q A = ab → lookQ q B = bl →
      forB (cfgN P (n + 2)) (.v 7) (t__law_fold_l1 a) (enP q) [.fz (encPk p), .fz x.enc, .fz (.dic true (A.map (enQ encSt))), .fz (.dic true (B.map (enQ encSt))), s4, .ow .all (.lst Z), .fz lst, .un, .un, .un] M =
      .nx [.fz (encPk p), .fz x.enc, .fz (.dic true (A.map (enQ encSt))), .fz (.dic true (B.map (enQ encSt))), s4, .ow .all (.lst (Z ++ [.lst [encSt (lay2 x.ov (ab.getD []) (bl.getD []))]])), .fz (.int q.1), .un, .un, .un] M := by
    intro s4 Z q lst ab bl hZ hlst hln q1 q2
    have o1 : ∀ o : Option Stk, (o.map encSt).getD (.lst []) = encSt (o.getD []) := fun o => by cases o <;> rfl
    have hx : Fold.enc x = .tup [.str (lnS x.v), .int x.at_, .str (ptS x.hi), .str (wyS x.ov)] := rfl
    have x0 : ixD (enP q) (.int 0) = some (.int q.1) := x_t0
    have lg : getL (.lst (Z ++ [.lst []])) [.int (((Z.length + 1 : Nat) : Int) - 1)] = some [] := last_get (by omega)
    have ls : ∀ y, setP (.lst (Z ++ [.lst []])) [.int (((Z.length + 1 : Nat) : Int) - 1)] y = .lst (Z ++ [y]) := fun y => last_set (by omega)
    have pb := p_path lg
    have hln2 : (bl.getD []).length + (ab.getD []).length ≤ 16777216 := by omega
    have m1 : binD .add (.lst ((ab.getD []).map Lay.enc)) (.lst ((bl.getD []).map Lay.enc)) = some (.lst (((ab.getD []) ++ (bl.getD [])).map Lay.enc)) := by
      rw [b_addl (by rw [sizeLine_eq]; simpa using hln), List.map_append]
    have m2 : binD .add (.lst ((bl.getD []).map Lay.enc)) (.lst ((ab.getD []).map Lay.enc)) = some (.lst (((bl.getD []) ++ (ab.getD [])).map Lay.enc)) := by
      rw [b_addl (by rw [sizeLine_eq]; simpa using hln2), List.map_append]
    rcases hlst with rfl | ⟨z, rfl, hz⟩
    · cases hov : x.ov <;> simp! only [forB, t__law_fold_l1, lookD_Q, q1, q2, o1, hx, hov, wyS, x0, x_okP, encSt, pb, lg, ls, m1, m2, lay2, fr_lay]
    · cases hov : x.ov <;> simp! only [forB, t__law_fold_l1, lookD_Q, q1, q2, o1, hx, hov, wyS, x0, x_okP, encSt, pb, lg, ls, m1, m2, lay2, fr_lay, hz]
  have stepB : ∀ (s4 : SV) (Z Y : List D) (q : Int × Int) (ab bl : Option Stk), Z.length < 1000000 → Y.length < 1000000 → (ab.getD []).length + (bl.getD []).length ≤ 16777216 → lookQ q A = ab → lookQ q B = bl →
      forB (cfgN P (n + 2)) (.v 7) (t__law_fold_l1 a) (enP q) [.fz (encPk p), .fz x.enc, .fz (.dic true (A.map (enQ encSt))), .fz (.dic true (B.map (enQ encSt))), s4, .ow .all (.lst (Z ++ [.lst Y])), .fz (.int q.1), .un, .un, .un] M =
      .nx [.fz (encPk p), .fz x.enc, .fz (.dic true (A.map (enQ encSt))), .fz (.dic true (B.map (enQ encSt))), s4, .ow .all (.lst (Z ++ [.lst (Y ++ [encSt (lay2 x.ov (ab.getD []) (bl.getD []))])])), .fz (.int q.1), .un, .un, .un] M := by
    intro s4 Z Y q ab bl hZ hY hln q1 q2
    have o1 : ∀ o : Option Stk, (o.map encSt).getD (.lst []) = encSt (o.getD []) := fun o => by cases o <;> rfl
    have hx : Fold.enc x = .tup [.str (lnS x.v), .int x.at_, .str (ptS x.hi), .str (wyS x.ov)] := rfl
    have x0 : ixD (enP q) (.int 0) = some (.int q.1) := x_t0
    have lg : getL (.lst (Z ++ [.lst Y])) [.int (((Z.length + 1 : Nat) : Int) - 1)] = some Y := last_get (by omega)
    have ls : ∀ y, setP (.lst (Z ++ [.lst Y])) [.int (((Z.length + 1 : Nat) : Int) - 1)] y = .lst (Z ++ [y]) := fun y => last_set (by omega)
    have pb := p_path lg
    have hln2 : (bl.getD []).length + (ab.getD []).length ≤ 16777216 := by omega
    have m1 : binD .add (.lst ((ab.getD []).map Lay.enc)) (.lst ((bl.getD []).map Lay.enc)) = some (.lst (((ab.getD []) ++ (bl.getD [])).map Lay.enc)) := by
      rw [b_addl (by rw [sizeLine_eq]; simpa using hln), List.map_append]
    have m2 : binD .add (.lst ((bl.getD []).map Lay.enc)) (.lst ((ab.getD []).map Lay.enc)) = some (.lst (((bl.getD []) ++ (ab.getD [])).map Lay.enc)) := by
      rw [b_addl (by rw [sizeLine_eq]; simpa using hln2), List.map_append]
    cases hov : x.ov <;> simp! only [forB, t__law_fold_l1, lookD_Q, q1, q2, o1, hx, hov, wyS, x0, x_okP, encSt, pb, lg, ls, m1, m2, lay2, fr_lay]
  generalize hS' : strips x.v p = S at *
  have rw_ : S.length = (if x.v = true then c else r) := hS.1
  -- what stands at a place
  have wl : ∀ (pos : Int) (t : Nat), ((mvC x S pos t).getD []).length + ((stC x S pos t).getD []).length ≤ 16777216 := fun pos t => by
    have hcS : cnt S ≤ 1000000 := by
      rw [← hS']
      unfold cnt
      rw [tot_strips (fun _ => 1) hp]
      exact ht
    have one : ∀ (s : Strip), s ∈ S → (s.getD t default).length ≤ 1000000 := fun s hs => by
      by_cases h : t < s.length
      · exact Nat.le_trans (cnt_mem hs (mem_getD h)) hcS
      · rw [List.getD_eq_getElem?_getD, List.getElem?_eq_none (Nat.le_of_not_lt h)]; exact Nat.zero_le _
    have h1 : ((mvC x S pos t).getD []).length ≤ 1000000 := by
      unfold mvC mvAt
      split
      · rename_i h
        simp only [Option.map_some, Option.getD_some]
        have hm := mem_getD (d := default) (l := S) (i := (2 * (x.at_ : Int) - 1 - pos).toNat) (by omega)
        by_cases h : t < (S.getD (2 * (x.at_ : Int) - 1 - pos).toNat default).length
        · rw [getD_map h, ovS_len]; exact one _ hm
        · rw [List.getD_eq_getElem?_getD, List.getElem?_eq_none (by simpa using Nat.le_of_not_lt h)]; exact Nat.zero_le _
      · exact Nat.zero_le _
    have h2 : ((stC x S pos t).getD []).length ≤ 1000000 := by
      unfold stC stAt
      split
      · rename_i h
        simp only [Option.map_some, Option.getD_some]
        exact one _ (mem_getD (by omega))
      · exact Nat.zero_le _
    omega
  have bR : rowN x S (widS x r c) ≤ 2000 ∧ colN x S (widS x r c) ≤ 2000 ∧ 0 < colN x S (widS x r c) := by
    have := np.1
    have := np.2
    have := hp.r1
    have := hp.c1
    unfold rowN colN widS
    cases hv : x.v <;> simp [hv] at rw_ ⊢ <;> omega
  generalize hR : rowN x S (widS x r c) = RN at *
  generalize hC : colN x S (widS x r c) = CN at *
  let cell : Nat → Nat → Stk := fun i j => if x.v then cellQ x S (fst_ S.length x.at_ x.hi + (j : Nat)) i else cellQ x S (fst_ S.length x.at_ x.hi + (i : Nat)) j
  obtain ⟨s4, hs4⟩ : ∃ s4, s4 = SV.fz (.lst ((rectL (rowA x S) (colA x S) (idxs CN RN 0)).map enP)) := ⟨_, rfl⟩
  let stt : Nat → Nat → Sl := fun i j => if j = CN then [.fz (encPk p), .fz x.enc, .fz (.dic true (A.map (enQ encSt))), .fz (.dic true (B.map (enQ encSt))), s4, .ow .all (.lst (fnd cell CN (i + 1) 0)), .fz (lastD (rowA x S) (i + 1) 0), .un, .un, .un]
      else [.fz (encPk p), .fz x.enc, .fz (.dic true (A.map (enQ encSt))), .fz (.dic true (B.map (enQ encSt))), s4, .ow .all (.lst (fnd cell CN i j)), .fz (lastD (rowA x S) i j), .un, .un, .un]
  have hstep : ∀ i j, i < RN → j < CN → forB (cfgN P (n + 2)) (.v 7) (t__law_fold_l1 a) (enP (rowA x S + (i : Nat), colA x S + (j : Nat))) (stt i j) M = .nx (stt i (j + 1)) M := by
    intro i j hi hj
    show forB _ _ _ _ (if j = CN then _ else _) M = .nx (if j + 1 = CN then _ else _) M
    have hc0 : (if j + 1 = CN then ([.fz (encPk p), .fz x.enc, .fz (.dic true (A.map (enQ encSt))), .fz (.dic true (B.map (enQ encSt))), s4, .ow .all (.lst (fnd cell CN (i + 1) 0)), .fz (lastD (rowA x S) (i + 1) 0), .un, .un, .un] : Sl)
      else [.fz (encPk p), .fz x.enc, .fz (.dic true (A.map (enQ encSt))), .fz (.dic true (B.map (enQ encSt))), s4, .ow .all (.lst (fnd cell CN i (j + 1))), .fz (lastD (rowA x S) i (j + 1)), .un, .un, .un]) =
      [.fz (encPk p), .fz x.enc, .fz (.dic true (A.map (enQ encSt))), .fz (.dic true (B.map (enQ encSt))), s4, .ow .all (.lst (fnd cell CN i (j + 1))), .fz (.int (rowA x S + (i : Nat))), .un, .un, .un] := by
      split
      · rename_i h
        rw [fnd_full bR.2.2, ← h]; rfl
      · rfl
    rw [hc0, if_neg (by omega)]
    obtain ⟨ab, bl, g1, g2, g3, g4⟩ : ∃ ab bl, lookQ (rowA x S + (i : Nat), colA x S + (j : Nat)) A = ab ∧ lookQ (rowA x S + (i : Nat), colA x S + (j : Nat)) B = bl ∧ cell i j = lay2 x.ov (ab.getD []) (bl.getD []) ∧ (ab.getD []).length + (bl.getD []).length ≤ 16777216 := by
      cases hv : x.v
      · have hw : j < widS x r c := by
          unfold colN at hC
          rw [hv] at hC
          simp only [Bool.false_eq_true, if_false] at hC
          omega
        have es : spot x.v (fst_ S.length x.at_ x.hi + (i : Nat)) j = (rowA x S + (i : Nat), colA x S + (j : Nat)) := by
          unfold spot rowA colA; simp [hv]
        refine ⟨mvC x S (fst_ S.length x.at_ x.hi + (i : Nat)) j, stC x S (fst_ S.length x.at_ x.hi + (i : Nat)) j, ?_, ?_, ?_, wl _ _⟩
        · rw [← es]; exact mq _ _ hw
        · rw [← es]; exact sq _ _ hw
        · show (if x.v = true then _ else _) = _
          rw [hv]; rfl
      · have hw : i < widS x r c := by
          unfold rowN at hR
          rw [hv] at hR
          simp only [if_true] at hR
          omega
        have es : spot x.v (fst_ S.length x.at_ x.hi + (j : Nat)) i = (rowA x S + (i : Nat), colA x S + (j : Nat)) := by
          unfold spot rowA colA; simp [hv]
        refine ⟨mvC x S (fst_ S.length x.at_ x.hi + (j : Nat)) i, stC x S (fst_ S.length x.at_ x.hi + (j : Nat)) i, ?_, ?_, ?_, wl _ _⟩
        · rw [← es]; exact mq _ _ hw
        · rw [← es]; exact sq _ _ hw
        · show (if x.v = true then _ else _) = _
          rw [hv]; rfl
    by_cases h0 : j = 0
    · subst h0
      have := stepA s4 (fnd cell CN i 0) (rowA x S + (i : Nat), colA x S + ((0 : Nat) : Int)) (lastD (rowA x S) i 0) ab bl (by rw [fnd_len]; omega) (by
        unfold lastD
        rw [if_pos rfl]
        by_cases hi0 : i = 0
        · exact .inl (if_pos hi0)
        · rw [if_neg hi0]
          exact .inr ⟨_, rfl, by simp only; omega⟩) g4 g1 g2
      rw [← g3, fnd_one] at this
      exact this
    · have := stepB s4 (fnd cell CN i 0) ((List.range j).map fun b => encSt (cell i b)) (rowA x S + (i : Nat), colA x S + (j : Nat)) ab bl (by rw [fnd_len]; omega) (by simp; omega) g4 g1 g2
      rw [← g3] at this
      have e1 : lastD (rowA x S) i j = .int (rowA x S + (i : Nat)) := if_neg h0
      rw [e1, fnd_more (by omega), fnd_more (j := j + 1) (by omega), List.range_succ, List.map_append]
      exact this
  have lp := forL_idxs (M := M) (f := forB (cfgN P (n + 2)) (.v 7) (t__law_fold_l1 a)) (e := fun q : Nat × Nat => enP (rowA x S + (q.1 : Nat), colA x S + (q.2 : Nat))) (c := CN) (R := RN) stt hstep (fun i => by
    show (if CN = CN then _ else _) = (if 0 = CN then _ else _)
    rw [if_pos rfl, if_neg (by omega)])
  have lp : forL _ _ (if 0 = CN then _ else _) M = .nx (if 0 = CN then _ else _) M := lp
  rw [if_neg (by omega), if_neg (by omega)] at lp
  have eL : (idxs CN RN 0).map (fun q : Nat × Nat => enP (rowA x S + (q.1 : Nat), colA x S + (q.2 : Nat))) = (rectL (rowA x S) (colA x S) (idxs CN RN 0)).map enP := by
    unfold rectL; rw [List.map_map]; rfl
  rw [eL] at lp
  have hne : 0 < (KA ++ KB.filter fun q => !decide (q ∈ KA)).length := by
    have : 0 < (sortP (KA ++ KB.filter fun q => !decide (q ∈ KA))).length := by
      rw [as]
      unfold rectL
      rw [List.length_map, idxs_len]
      have hRp : 0 < RN := by
        have := np.1
        have := hp.r1
        rw [← hR]
        unfold rowN widS
        cases hv : x.v <;> simp <;> omega
      have := Nat.mul_pos hRp bR.2.2
      omega
    have e : (sortP (KA ++ KB.filter fun q => !decide (q ∈ KA))).length = (KA ++ KB.filter fun q => !decide (q ∈ KA)).length := List.length_mergeSort _
    omega
  have ef : D.lst (fnd cell CN RN 0) = encPk (foldP x p) := by
    rw [fc]
    unfold fnd
    rw [if_pos rfl, List.append_nil]
    unfold encPk
    rw [List.map_map]
    congr 1
    apply List.map_congr_left
    intro i _
    simp only [Function.comp_apply, encRow, List.map_map]
    rfl
  have bl : KA.length + (KB.filter fun q => !decide (q ∈ KA)).length ≤ 16777216 := by
    have := List.length_filter_le (fun q => !decide (q ∈ KA)) KB
    rw [k1, k2, List.length_map] at *
    simp only [List.length_map] at *
    omega
  have bd : binD .add (.lst (KA.map enP)) (.lst ((KB.filter fun q => !decide (q ∈ KA)).map enP)) = some (.lst ((KA ++ KB.filter fun q => !decide (q ∈ KA)).map enP)) := by
    rw [b_addl (by rw [sizeLine_eq]; simpa using bl), List.map_append]
  have fs := f_sortP hne
  rw [as, List.map_append] at fs
  have kA : (A.map (enQ encSt)).map (·.1) = KA.map enP := by rw [keys_Q, k1]
  have f0 : fnd cell CN 0 0 = [] := rfl
  have l0 : lastD (rowA x S) 0 0 = .non := rfl
  rw [f0, l0, hs4] at lp
  simp! only [t__law_fold, e1, e2, i_keys, keys_Q, ← k1, ← k2, x_okP, lookD_Q, hf, bd, fs, lp, ef]
end VL

/-! L9: the law's own flat packet, its run of folds, its turning of a closed packet, what it sees -/
namespace VL
open PySem
/-! ### slices -/
theorem cut_both (xs : List D) (a b : Nat) : cutD xs (some (a : Int)) (some (b : Int)) = (xs.take b).drop a := by
  unfold cutD
  rw [HT.sIx_nat, HT.sIx_nat]
  apply List.ext_getElem?
  intro i
  rw [List.getElem?_take, List.getElem?_drop, List.getElem?_drop, List.getElem?_take]
  by_cases h : min a xs.length + i < xs.length
  · have h1 : min a xs.length = a := by omega
    rw [h1]
    by_cases h2 : a + i < b
    · rw [if_pos (by omega), if_pos h2]
    · rw [if_neg (by omega), if_neg h2]
  · rw [List.getElem?_eq_none (by omega), List.getElem?_eq_none (l := xs) (i := a + i) (by omega)]
    simp
theorem cut_from (xs : List D) (a : Nat) : cutD xs (some (a : Int)) none = xs.drop a := by
  unfold cutD
  rw [HT.sIx_nat, HT.sIx_none]
  apply List.ext_getElem?
  intro i
  rw [List.getElem?_take, List.getElem?_drop, List.getElem?_drop]
  by_cases h : min a xs.length + i < xs.length
  · have h1 : min a xs.length = a := by omega
    rw [h1, if_pos (by omega)]
  · rw [List.getElem?_eq_none (by omega), List.getElem?_eq_none (l := xs) (i := a + i) (by omega)]
    simp
theorem cut_to (xs : List D) (b : Nat) : cutD xs none (some (b : Int)) = xs.take b := by
  unfold cutD
  rw [HT.sIx_nat, HT.sIx_none, Nat.sub_zero, List.drop_zero]
  apply List.ext_getElem?
  intro i
  rw [List.getElem?_take, List.getElem?_take]
  by_cases h : i < xs.length
  · by_cases h2 : i < b
    · rw [if_pos (by omega), if_pos h2]
    · rw [if_neg (by omega), if_neg h2]
  · rw [List.getElem?_eq_none (by omega)]
    simp
theorem sl_both {α : Type} {f : α → D} {l : List α} {a b : Int} (ha : 0 ≤ a) (hb : 0 ≤ b) : slD (.lst (l.map f)) (some a) (some b) = some (.lst (((l.take b.toNat).drop a.toNat).map f)) := by
  obtain ⟨a, rfl⟩ := Int.eq_ofNat_of_zero_le ha
  obtain ⟨b, rfl⟩ := Int.eq_ofNat_of_zero_le hb
  simp only [slD, cut_both, List.map_drop, List.map_take, Int.toNat_natCast]
theorem sl_from {α : Type} {f : α → D} {l : List α} {a : Int} (ha : 0 ≤ a) : slD (.lst (l.map f)) (some a) none = some (.lst ((l.drop a.toNat).map f)) := by
  obtain ⟨a, rfl⟩ := Int.eq_ofNat_of_zero_le ha
  simp only [slD, cut_from, List.map_drop, Int.toNat_natCast]
theorem sl_to {α : Type} {f : α → D} {l : List α} {b : Int} (hb : 0 ≤ b) : slD (.lst (l.map f)) none (some b) = some (.lst ((l.take b.toNat).map f)) := by
  obtain ⟨b, rfl⟩ := Int.eq_ofNat_of_zero_le hb
  simp only [slD, cut_to, List.map_take, Int.toNat_natCast]
theorem nb_int (z : Int) : nb 1 (.int z) := trivial
theorem nb_i2 (a b : Int) : nb 2 (.tup [.int a, .int b]) := fun x hx => by
  simp only [List.mem_cons, List.not_mem_nil, or_false] at hx
  rcases hx with rfl | rfl <;> trivial
theorem nb_fold (x : Fold) : nb 2 x.enc := fun y hy => by
  simp only [List.mem_cons, List.not_mem_nil, or_false] at hy
  rcases hy with rfl | rfl | rfl | rfl
  · cases x.v <;> (show PyData.canLay0 _ = true; decide +kernel)
  · trivial
  · cases x.hi <;> (show PyData.canLay0 _ = true; decide +kernel)
  · cases x.ov <;> (show PyData.canLay0 _ = true; decide +kernel)
theorem ne_self {n : Nat} {a : D} (h : nb n a) (hn : n ≤ 64) : cmpD .ne a a = some (.bl false) := by rw [c_neD h h hn hn]; simp
theorem eq_self_ {n : Nat} {a : D} (h : nb n a) (hn : n ≤ 64) : cmpD .eq a a = some (.bl true) := by rw [c_eqD h h hn hn]; simp
theorem law_over2 {P : Prog} {f : Nat} (hV : S__law_overV P f) (hH : S__law_overH P f) : S__law_over2 P f := fun n s v M hs => by
  cases v
  · exact hH n s M (by omega)
  · exact hV n s M (by omega)
/- _law_flat(sheet, rows, cols): 0=sheet 1=rows 2=cols 3=found 4=r 5=c -/
def t__law_flat_l1 : List Sm := [.mut 3 [] .app (.a (.e (.comp (.lst [(.tup [(.var 0), (.var 4), (.var 5), (.lit (.int 0)), (.lit (.int 0))])]) (.v 5) .rng1 [(.var 2)] [] [5]))),
  .kill [4]]
def t__law_flat : List Sm := [.own 3 (.dn (.lst [])),
  .for_ (.v 4) .rng1 [(.var 1)] (t__law_flat_l1),
  .freeze 3,
  .ret (.var 3)]
abbrev S__law_flat (P : Prog) (f : Nat) : Prop := ∀ n s (r c : Nat) M, r ≤ 16777216 → c ≤ 16777216 → callN P (n + 1) f [.int s, .int r, .int c] M = .ok (.z, encPk (flatP s r c)) M
theorem p__law_flat {P : Prog} {f : Nat} (hP : P.fns[f]? = some ⟨3, 6, t__law_flat⟩) : S__law_flat P f := by
  intro n s r c M hr hc
  rw [callN_eq hP rfl]
  simp! only [t__law_flat]
  rw [forL_app0N (fun a => [.fz (.int s), .fz (.int r), .fz (.int c), .ow (.s .z) (.lst a), .un, .un]) (by omega) fun acc i hi ha => by
    simp! only [forB, t__law_flat_l1]
    exact rfl]
  simp! only [encPk, flatP, encRow, encSt, Lay.enc, List.map_map, Function.comp_def]
theorem run_law {M : Mem} {f : D → Sl → Mem → RS} (st : Pk → Sl) (hstep : ∀ p r c x, Shape p r c → r ≤ 1000 → c ≤ 1000 → OkF x r c → cnt p ≤ 1000000 → f x.enc (st p) M = .nx (st (foldP x p)) M) :
    ∀ {fs : List Fold} {r c r' c' : Nat} {p : Pk}, Shape p r c → r ≤ 1000 → c ≤ 1000 → lead r c fs r' c' → cnt p ≤ 1000000 → forL f (fs.map Fold.enc) (st p) M = .nx (st (foldAll fs p)) M
  | [], _, _, _, _, p, _, _, _, _, _ => rfl
  | x :: fs, r, c, _, _, p, h, hr, hc, ⟨h1, h2⟩, ht => by
    rw [List.map_cons, forL_cons, hstep p r c x h hr hc h1 ht, kFl_nx]
    have le := nx_le h1
    exact run_law st hstep (fs := fs) (foldP_shape h h1) (by omega) (by omega) h2 (by
      have := tot_foldP (w := fun _ => 1) turn_one h h1
      unfold cnt at *
      omega)
/-- a closed packet's turning -/
def turnS (m : Str) (s : Stk) : Stk := if m = "V" then stV s else if m = "H" then stH s else if m = "spin" then stS s else s
theorem turnS_good {m : Str} {sh : Int} {r c : Nat} {s : Stk} (h : GoodSt sh r c s) : GoodSt sh r c (turnS m s) := by
  unfold turnS
  split
  · exact h.stV
  · split
    · exact h.stH
    · split
      · exact h.stS
      · exact h
def IsTurn (m : Str) : Prop := m = "none" ∨ m = "V" ∨ m = "H" ∨ m = "spin"
theorem turnS_own {P : Prog} {f : Nat} (h : S_turned P f) (n : Nat) {m : Str} (hm : IsTurn m) (s : Stk) (M : Mem) : callN P (n + 4) f [encPk [[s]], .str m] M = .ok (.z, encPk [[turnS m s]]) M := by
  rcases hm with rfl | rfl | rfl | rfl
  · exact h.t0 n [[s]] M
  · exact h.tV n [[s]] M
  · exact h.tH n [[s]] M
  · exact h.tS n [[s]] M
abbrev S__law_turned1 (P : Prog) (f : Nat) : Prop := ∀ n (m : Str) (s : Stk) M, IsTurn m → s.length ≤ 1000000 → callN P (n + 2) f [encPk [[s]], .str m] M = .ok (.z, encPk [[turnS m s]]) M
theorem p__law_turned1 {P : Prog} {f a : Nat} (hP : P.fns[f]? = some ⟨2, 8, t__law_turned a⟩) (hv : S__law_overV P a) (hh : S__law_overH P a) : S__law_turned1 P f := by
  intro n m s M hm hs
  have e1 := hv n s M (by omega)
  have e2 := hh n s M (by omega)
  have e3 := hh n (stV s) M (by simp only [stV, List.length_map, List.length_reverse]; omega)
  have r1 : rngN 1 = [.int 0] := rfl
  have bl : bltD .list [encSt s] = some (encSt s) := rfl
  have i0 : ixD (encPk [[s]]) (.int 0) = some (encRow [s]) := rfl
  have i1 : ixD (encRow [s]) (.int 0) = some (encSt s) := rfl
  have l0 : bltD .len [encPk [[s]]] = some (.int 1) := rfl
  have l1 : bltD .len [encRow [s]] = some (.int 1) := rfl
  have hr : itD .rng1 [.int 1] = some [.int 0] := rfl
  rw [stHV] at e3
  rw [callN_eq hP rfl]
  rcases hm with rfl | rfl | rfl | rfl
  all_goals simp only [turnS]
  all_goals simp! only [t__law_turned, t__law_turned_l2, t__law_turned_l1, forB, forL_cons, forL_nil, r1, bl, i0, i1, l0, l1, hr, e1, e2, e3, Int.reduceSub]
  all_goals rfl
/-! ### what the law sees -/
def Cel.at_ (x : Cel) (f : Int) : Mk := if f = 0 then x.fr else x.bk
def cellOf (X : List Mks) (l : Lay) : Cel := ((X.getD l.sh.toNat default).getD l.row.toNat default).getD l.col.toNat default
structure SeenOk (X : List Mks) (l : Lay) : Prop where
  s : 0 ≤ l.sh ∧ l.sh < X.length
  r : 0 ≤ l.row ∧ l.row < (X.getD l.sh.toNat default).length
  c : 0 ≤ l.col ∧ l.col < ((X.getD l.sh.toNat default).getD l.row.toNat default).length
  f : l.fc = 0 ∨ l.fc = 1
def seen2 (hd : Bool) (X : List Mks) (l : Lay) : List Mk :=
  [⟨((cellOf X l).at_ l.fc).pg, (((cellOf X l).at_ l.fc).hd + l.tn) % 2⟩, ⟨((cellOf X l).at_ (1 - l.fc)).pg, (((cellOf X l).at_ (1 - l.fc)).hd + l.tn + (if hd = true then 1 else 0)) % 2⟩]
/- _law_seen(stack, sheets, spine): 0=stack 1=sheets 2=spine 3=found 4=sheet 5=row 6=col 7=face 8=turn 9=cell -/
def t__law_seen_l1 : List Sm := [.asg (.v 9) (.ix (.ix (.ix (.var 1) (.var 4)) (.var 5)) (.var 6)),
  .mut 3 [] .app (.a (.e (.tup [(.ix (.ix (.var 9) (.var 7)) (.lit (.int 0))), (.bin .mod (.bin .add (.ix (.ix (.var 9) (.var 7)) (.lit (.int 1))) (.var 8)) (.lit (.int 2)))]))),
  .mut 3 [] .app (.a (.e (.tup [(.ix (.ix (.var 9) (.bin .sub (.lit (.int 1)) (.var 7))) (.lit (.int 0))), (.bin .mod (.bin .add (.bin .add (.ix (.ix (.var 9) (.bin .sub (.lit (.int 1)) (.var 7))) (.lit (.int 1))) (.var 8)) (.blt .int [(.cmp .eq (.var 2) (.lit (.str "head")))])) (.lit (.int 2)))]))),
  .kill [4, 5, 6, 7, 8, 9]]
def t__law_seen : List Sm := [.own 3 (.dn (.lst [])),
  .for_ (.t [(.v 4), (.v 5), (.v 6), (.v 7), (.v 8)]) .seq [(.var 0)] (t__law_seen_l1),
  .freeze 3,
  .ret (.var 3)]
abbrev S__law_seen (P : Prog) (f : Nat) : Prop := ∀ n (s : Stk) (X : List Mks) (sp : Str) M, s.length ≤ 1000000 → (∀ l ∈ s, SeenOk X l) → callN P (n + 1) f [encSt s, .lst (X.map encM), .str sp] M = .ok (.z, .lst ((s.flatMap (seen2 (decide (sp = "head")) X)).map Mk.enc)) M
theorem p__law_seen {P : Prog} {f : Nat} (hP : P.fns[f]? = some ⟨3, 10, t__law_seen⟩) : S__law_seen P f := by
  intro n s X sp M hs ok
  have lp := forL_cat (M := M) (body := forB (cfgN P n) (.t [(.v 4), (.v 5), (.v 6), (.v 7), (.v 8)]) t__law_seen_l1) (items := s) (enc := Lay.enc) (acc := []) 2
    (fun a => [.fz (encSt s), .fz (.lst (X.map encM)), .fz (.str sp), .ow (.s .z) (.lst a), .un, .un, .un, .un, .un, .un]) (g := fun l => (seen2 (decide (sp = "head")) X l).map Mk.enc) (fun _ => rfl) (by simp; omega) fun acc l hl ha => by
      obtain ⟨a, b, c, d⟩ := ok l hl
      have i1 : ixD (.lst (X.map encM)) (.int l.sh) = some (encM (X.getD l.sh.toNat default)) := x_map a.1 a.2
      have i2 : ixD (encM (X.getD l.sh.toNat default)) (.int l.row) = some (encMr ((X.getD l.sh.toNat default).getD l.row.toNat default)) := x_map b.1 b.2
      have i3 : ixD (encMr ((X.getD l.sh.toNat default).getD l.row.toNat default)) (.int l.col) = some (cellOf X l).enc := x_map c.1 c.2
      have hseen : seen2 (decide (sp = "head")) X l = [⟨((cellOf X l).at_ l.fc).pg, (((cellOf X l).at_ l.fc).hd + l.tn) % 2⟩, ⟨((cellOf X l).at_ (1 - l.fc)).pg, (((cellOf X l).at_ (1 - l.fc)).hd + l.tn + (if decide (sp = "head") = true then 1 else 0)) % 2⟩] := rfl
      rw [hseen]
      generalize cellOf X l = x at *
      have hl1 : acc.length + 1 ≤ 16777216 := by omega
      rcases d with e | e
      · by_cases hs : sp = "head" <;> simp! only [forB, t__law_seen_l1, Lay.enc, i1, i2, i3, e, Cel.enc, Mk.enc, Cel.at_, hs, Int.reduceSub] <;> simp
      · by_cases hs : sp = "head" <;> simp! only [forB, t__law_seen_l1, Lay.enc, i1, i2, i3, e, Cel.enc, Mk.enc, Cel.at_, hs, Int.reduceSub] <;> simp
  rw [callN_eq hP rfl]
  simp only [encSt] at lp
  simp! only [t__law_seen, encSt, lp]
  simp [List.map_flatMap]
/-! ### pages imposed are pages seen -/
theorem imp_cell {hd : Bool} {sh : Int} {r c : Nat} {s : Stk} {pg : List Int} (h : GoodSt sh r c s) {X : List Mks} (h0 : 0 ≤ sh ∧ sh < X.length) (hX : X.getD sh.toNat default = impM hd s pg sh r c) {k : Nat} (hk : k < s.length) :
    SeenOk X (s.getD k default) ∧ seen2 hd X (s.getD k default) = [⟨pg.getD (2 * k) default, 0⟩, ⟨pg.getD (2 * k + 1) default, 0⟩] := by
  obtain ⟨a, b, q⟩ := h.q
  obtain ⟨q1, q2, q3, _⟩ := q _ (mem_getD (d := default) hk)
  obtain ⟨i, j, hi, hj, e⟩ := due_mem.mp (h.perm.mem_iff.mp (List.mem_map_of_mem (f := Lay.rc) (mem_getD (d := default) hk)))
  simp only [Lay.rc, Prod.mk.injEq] at e
  obtain ⟨e1, e2⟩ := e
  have fa := fmk_at (hd := hd) (pg := pg) h hk e1 e2
  have g1 : (impM hd s pg sh r c).length = r := by simp [impM]
  have g2 : ((impM hd s pg sh r c).getD i default) = (List.range c).map fun (j : Nat) => ⟨(fmk hd s pg ⟨sh, i, j, 0⟩).getD default, (fmk hd s pg ⟨sh, i, j, 1⟩).getD default⟩ := by
    unfold impM
    rw [List.getD_eq_getElem?_getD, List.getElem?_map, List.getElem?_range hi]; rfl
  have g3 : (((impM hd s pg sh r c).getD i default).getD j default) = ⟨(fmk hd s pg ⟨sh, i, j, 0⟩).getD default, (fmk hd s pg ⟨sh, i, j, 1⟩).getD default⟩ := by
    rw [g2, List.getD_eq_getElem?_getD, List.getElem?_map, List.getElem?_range hj]; rfl
  have g4 : ((impM hd s pg sh r c).getD i default).length = c := by rw [g2]; simp
  generalize s.getD k default = l at *
  obtain ⟨lsh, lrow, lcol, lfc, ltn⟩ := l
  simp only at q1 q2 q3 e1 e2 fa
  subst q1 e1 e2
  refine ⟨⟨h0, ?_, ?_, q2⟩, ?_⟩
  · simp only; rw [hX, g1]; omega
  · simp only; rw [hX, Int.toNat_natCast, g4]; omega
  · unfold seen2 cellOf
    simp only
    rw [hX, Int.toNat_natCast, Int.toNat_natCast, g3]
    have c0 : chg 0 ltn = ltn := by
      unfold chg
      rcases q3 with z | z <;> rw [z] <;> rfl
    rcases fa with ⟨z, u, d⟩ | ⟨z, u, d⟩
    · rw [u, d, z]
      simp only [Cel.at_, Option.getD_some, upm, lwm, c0, if_true, Int.sub_zero]
      rw [if_neg (by decide)]
      simp only
      cases hd <;> simp <;> omega
    · rw [u, d, z]
      have z1 : ¬ ((1 : Int) = 0) := by decide
      simp only [Cel.at_, Option.getD_some, upm, lwm, c0, if_neg z1, Int.sub_self, if_true]
      cases hd <;> simp <;> omega
theorem two_by_two : ∀ (n : Nat) (pg : List Int), pg.length = 2 * n → ((List.range n).flatMap fun k => [pg.getD (2 * k) default, pg.getD (2 * k + 1) default]) = pg
  | 0, pg, h => (List.length_eq_zero_iff.mp h).symm
  | n + 1, a :: b :: pg, h => by
    have ih := two_by_two n pg (by simp at h; omega)
    rw [List.range_succ_eq_map, List.flatMap_cons, List.flatMap_map]
    have e : ∀ k : Nat, [(a :: b :: pg).getD (2 * (k + 1)) default, (a :: b :: pg).getD (2 * (k + 1) + 1) default] = [pg.getD (2 * k) default, pg.getD (2 * k + 1) default] := fun k => by
      have h1 : 2 * (k + 1) = (2 * k) + 1 + 1 := by omega
      rw [h1, List.getD_cons_succ, List.getD_cons_succ, List.getD_cons_succ, List.getD_cons_succ]
    simp only [Nat.succ_eq_add_one, e, ih]
    rfl
  | n + 1, [], h => by simp at h
  | n + 1, [a], h => by simp at h; omega
theorem seen_imp {hd : Bool} {sh : Int} {r c : Nat} {s : Stk} {pg : List Int} (h : GoodSt sh r c s) {X : List Mks} (h0 : 0 ≤ sh ∧ sh < X.length) (hX : X.getD sh.toNat default = impM hd s pg sh r c) (hpg : pg.length = 2 * r * c) :
    (∀ l ∈ s, SeenOk X l) ∧ s.flatMap (seen2 hd X) = pg.map fun x => ⟨x, 0⟩ := by
  have len := h.len
  refine ⟨fun l hl => ?_, ?_⟩
  · obtain ⟨k, hk, rfl⟩ := List.getElem_of_mem hl
    have := (imp_cell (hd := hd) (pg := pg) h h0 hX hk).1
    rwa [List.getD_eq_getElem?_getD, List.getElem?_eq_getElem hk, Option.getD_some] at this
  · have e1 : s.flatMap (seen2 hd X) = (List.range s.length).flatMap fun k => seen2 hd X (s.getD k default) := by
      conv => lhs; rw [← List.map_id s, ← rg_id id default s]
      rw [List.flatMap_map]; rfl
    rw [e1]
    conv => rhs; rw [← two_by_two s.length pg (by rw [hpg, len, Nat.mul_assoc])]
    rw [List.map_flatMap]
    rw [List.flatMap_def, List.flatMap_def]
    congr 1
    apply List.map_congr_left
    intro k hk
    rw [(imp_cell (hd := hd) (pg := pg) h h0 hX (List.mem_range.mp hk)).2]
    rfl
end VL

/-! LG: tools -/
namespace VL
open PySem
theorem Mk.inj_ {x y : Mk} (h : x.enc = y.enc) : x = y := by
  cases x; cases y
  simp only [Mk.enc, D.tup.injEq, List.cons.injEq, D.int.injEq, and_true] at h
  simp only [Mk.mk.injEq]; exact h
theorem and1 {i : Int} (h : 0 ≤ i) : Builtin.bitAnd i 1 = i % 2 := by
  obtain ⟨n, rfl⟩ := Int.eq_ofNat_of_zero_le h
  have : Builtin.bitAnd (n : Int) 1 = ((n &&& 1 : Nat) : Int) := rfl
  rw [this, Nat.and_one_is_mod]; rfl
/-- loops that look for a fault -/
theorem loop_all {α : Type} {body : D → Sl → Mem → RS} {M : Mem} {ρ : Sl} {enc : α → D} (ok : α → Bool) : ∀ {items : List α}, (∀ x ∈ items, body (enc x) ρ M = if ok x = true then .nx ρ M else .rt (.z, .bl false) M) →
    forL body (items.map enc) ρ M = if items.all ok = true then .nx ρ M else .rt (.z, .bl false) M
  | [], _ => rfl
  | x :: xs, h => by
    have hx := h x List.mem_cons_self
    have ih := loop_all ok (items := xs) fun y hy => h y (List.mem_cons_of_mem _ hy)
    rw [List.map_cons, forL_cons, hx, List.all_cons]
    by_cases e : ok x = true
    · rw [if_pos e, kFl_nx, ih, e]; simp
    · rw [if_neg e]
      simp only [e, Bool.false_and, Bool.false_eq_true, if_false]
      rfl
theorem map_inj {α β : Type} {f : α → β} (hf : ∀ x y, f x = f y → x = y) : ∀ {a b : List α}, a.map f = b.map f → a = b
  | [], [], _ => rfl
  | [], _ :: _, h => by simp at h
  | _ :: _, [], h => by simp at h
  | x :: a, y :: b, h => by
    simp only [List.map_cons, List.cons.injEq] at h
    rw [hf _ _ h.1, map_inj hf h.2]
theorem nb_mk (l : Mk) : nb 2 l.enc := nb_i2 _ _
theorem two2 {α : Type} [Inhabited α] : ∀ (n : Nat) (pg : List α), pg.length = 2 * n → ((List.range n).flatMap fun k => [pg.getD (2 * k) default, pg.getD (2 * k + 1) default]) = pg
  | 0, pg, h => (List.length_eq_zero_iff.mp h).symm
  | n + 1, a :: b :: pg, h => by
    have ih := two2 n pg (by simp at h; omega)
    rw [List.range_succ_eq_map, List.flatMap_cons, List.flatMap_map]
    have e : ∀ k : Nat, [(a :: b :: pg).getD (2 * (k + 1)) default, (a :: b :: pg).getD (2 * (k + 1) + 1) default] = [pg.getD (2 * k) default, pg.getD (2 * k + 1) default] := fun k => by
      have h1 : 2 * (k + 1) = (2 * k) + 1 + 1 := by omega
      rw [h1, List.getD_cons_succ, List.getD_cons_succ, List.getD_cons_succ, List.getD_cons_succ]
    simp only [Nat.succ_eq_add_one, e, ih]
    rfl
  | n + 1, [], h => by simp at h
  | n + 1, [a], h => by simp at h; omega
theorem nb_cel (l : Cel) : nb 3 l.enc := fun x hx => by
  simp only [List.mem_cons, List.not_mem_nil, or_false] at hx
  rcases hx with rfl | rfl <;> exact nb_mk _
theorem nb_M (m : Mks) : nb 5 (encM m) := nb_lst fun r _ => nb_lst fun c _ => nb_cel c
theorem encM_get {X : Mks} {i : Nat} (h : i < X.length) : getL (encM X) [.int (i : Nat)] = some ((X.getD i default).map Cel.enc) := by
  refine getL_of ?_
  unfold encM
  rw [getP_nat (d := encMr (X.getD i default)) (by rw [List.getElem?_map, List.getD_eq_getElem?_getD, List.getElem?_eq_getElem h]; rfl)]; rfl
theorem encM_set {X : Mks} {i j : Nat} {v : Cel} (h : i < X.length) : setP (encM X) [.int (i : Nat)] (.lst (((X.getD i default).map Cel.enc).set j v.enc)) = encM (X.set i ((X.getD i default).set j v)) := by
  unfold encM
  rw [setP_nat (d := encMr (X.getD i default)) (by rw [List.getElem?_map, List.getD_eq_getElem?_getD, List.getElem?_eq_getElem h]; rfl)]
  rw [List.map_set]
  unfold encMr
  rw [List.map_set]; rfl
theorem erase_perm {α : Type} : ∀ {L : List α} {j : Nat} (h : j < L.length), (L[j] :: L.eraseIdx j).Perm L
  | x :: L, 0, _ => .refl _
  | x :: L, j + 1, h => by
    have ih := erase_perm (L := L) (j := j) (by simpa using h)
    rw [List.getElem_cons_succ, List.eraseIdx_cons_succ]
    exact (List.Perm.swap _ _ _).trans (ih.cons _)
theorem erase_map {α β : Type} (f : α → β) : ∀ (L : List α) (j : Nat), (L.map f).eraseIdx j = (L.eraseIdx j).map f
  | [], _ => rfl
  | _ :: _, 0 => rfl
  | x :: L, j + 1 => by rw [List.map_cons, List.eraseIdx_cons_succ, List.eraseIdx_cons_succ, List.map_cons, erase_map f L j]
theorem fr_P (X : List (Int × Int)) : frA (.lst (X.map enP)) = some (.all, .lst (X.map enP)) := fr_flat (by
  rw [List.all_eq_true]
  intro d hd
  obtain ⟨l, _, rfl⟩ := List.mem_map.mp hd; rfl)
theorem lookI_put {l : List (Int × Int)} {k k' v : Int} : lookI k' (l.map fun q => if q.1 = k then (q.1, v) else q) = if k' = k ∧ (lookI k l).isSome = true then some v else lookI k' l := by
  induction l with
  | nil => simp [lookI]
  | cons p l ih =>
    unfold lookI at ih ⊢
    rw [List.map_cons, List.find?_cons, List.find?_cons, List.find?_cons]
    by_cases e : p.1 = k
    · rw [if_pos e]
      by_cases e2 : p.1 = k'
      · subst e; subst e2
        simp
      · have e3 : ¬ k' = k := fun z => e2 (e.trans z.symm)
        simp only [e2, decide_false, e3, false_and, if_false]
        rw [ih]; simp [e3]
    · rw [if_neg e]
      by_cases e2 : p.1 = k'
      · have e3 : ¬ k' = k := fun z => e (e2.trans z)
        simp [e2, e3]
      · simp only [e2, e, decide_false]
        exact ih
theorem f_sortD {α : Type} {e : α → D} {l : List (Int × α)} : bltD .sorted [.dic false (l.map (enK e))] = some (.lst ((sortI (l.map (·.1))).map D.int)) := by
  have h : (l.map (enK e)).map (·.1) = (l.map (·.1)).map D.int := by rw [List.map_map, List.map_map]; rfl
  have := intsOf_mapf (fun x => x) (l.map (·.1))
  simp only [List.map_id_fun', id] at this
  show (intsOf ((l.map (enK e)).map (·.1))).map _ = _
  rw [h, this]; rfl
def incC (l : List (Int × Int)) (k : Int) : List (Int × Int) :=
  if (lookI k l).isSome = true then l.map (fun q => if q.1 = k then (q.1, (lookI k l).getD 0 + 1) else q) else l ++ [(k, (lookI k l).getD 0 + 1)]
theorem lookI_any {α : Type} {k : Int} {l : List (Int × α)} : (lookI k l).isSome = l.any fun q => decide (q.1 = k) := by
  unfold lookI
  rw [Option.isSome_map]
  induction l with
  | nil => rfl
  | cons p l ih =>
    rw [List.find?_cons, List.any_cons]
    cases decide (p.1 = k) <;> simp [ih]
theorem put_inc (l : List (Int × Int)) (k : Int) : putD (.int k) (.int ((lookI k l).getD 0 + 1)) (l.map (enK D.int)) = (incC l k).map (enK D.int) := by
  unfold putD incC
  have e : ((l.map (enK D.int)).any fun kv => decide (kv.1 = .int k)) = (lookI k l).isSome := by
    rw [lookI_any, List.any_map]
    congr 1
    funext q
    simp [enK]
  rw [e]
  by_cases h : (lookI k l).isSome = true
  · rw [if_pos h, if_pos h, List.map_map, List.map_map]
    apply List.map_congr_left
    intro q _
    simp only [Function.comp, enK, D.int.injEq]
    split <;> rfl
  · rw [if_neg h, if_neg h, List.map_append]; rfl
theorem look_inc (l : List (Int × Int)) (k k' : Int) : lookI k' (incC l k) = if k' = k then some ((lookI k l).getD 0 + 1) else lookI k' l := by
  unfold incC
  by_cases h : (lookI k l).isSome = true
  · rw [if_pos h, lookI_put]
    simp [h]
  · rw [if_neg h]
    have hn : lookI k l = none := by simpa using h
    unfold lookI at hn ⊢
    rw [List.find?_append]
    by_cases e : k' = k
    · subst e
      rw [Option.map_eq_none_iff] at hn
      rw [hn]; simp
    · have : ¬ k = k' := fun z => e z.symm
      simp [e, this]
theorem inc_len (l : List (Int × Int)) (k : Int) : (incC l k).length ≤ l.length + 1 := by
  unfold incC
  split <;> simp
def cntC (ps : List Int) : List (Int × Int) := ps.foldl incC []
theorem cnt_snoc (ps : List Int) (k : Int) : cntC (ps ++ [k]) = incC (cntC ps) k := by unfold cntC; rw [List.foldl_append]; rfl
theorem cnt_len : ∀ (ps : List Int) (l : List (Int × Int)), (ps.foldl incC l).length ≤ l.length + ps.length
  | [], l => by simp
  | p :: ps, l => by
    rw [List.foldl_cons]
    have := cnt_len ps (incC l p)
    have := inc_len l p
    simp only [List.length_cons]; omega
theorem look_cntA : ∀ (ps qs : List Int) (l : List (Int × Int)), (∀ k, lookI k l = if k ∈ qs then some ((qs.count k : Nat) : Int) else none) → ∀ k, lookI k (ps.foldl incC l) = if k ∈ qs ++ ps then some (((qs ++ ps).count k : Nat) : Int) else none
  | [], qs, l, h, k => by simpa using h k
  | p :: ps, qs, l, h, k => by
    rw [List.foldl_cons, show qs ++ p :: ps = (qs ++ [p]) ++ ps by simp]
    refine look_cntA ps (qs ++ [p]) (incC l p) (fun k => ?_) k
    rw [look_inc, h p, h k, List.count_append]
    by_cases e : k = p
    · subst e
      by_cases hm : k ∈ qs
      · simp [hm]
      · simp [hm, List.count_eq_zero_of_not_mem hm]
    · have e2 : ¬ p = k := fun z => e z.symm
      simp [e, e2, List.count_cons]
theorem look_cnt (ps : List Int) (k : Int) : lookI k (cntC ps) = if k ∈ ps then some ((ps.count k : Nat) : Int) else none := look_cntA ps [] [] (fun _ => rfl) k
theorem mem_cnt (ps : List Int) (k : Int) : k ∈ (cntC ps).map (·.1) ↔ k ∈ ps := by
  have h1 : (lookI k (cntC ps)).isSome = true ↔ k ∈ (cntC ps).map (·.1) := by
    rw [lookI_any]
    simp
  rw [← h1, look_cnt]
  by_cases h : k ∈ ps <;> simp [h]
theorem mem_sortI {l : List Int} {k : Int} : k ∈ sortI l ↔ k ∈ l := (List.mergeSort_perm l _).mem_iff
theorem sortI_pair (l : List Int) : (sortI l).Pairwise (· ≤ ·) := by
  have := List.pairwise_mergeSort (le := fun a b : Int => decide (a ≤ b)) (fun a b c h1 h2 => by simp at *; omega) (fun a b => by simp; omega) l
  exact this.imp fun h => by simpa using h
/-- no neighbours alike: all unlike -/
theorem sort_nodup (l : List Int) : ((List.range ((sortI l).length - 1)).all fun i => !decide ((sortI l).getD (i + 1) default = (sortI l).getD i default)) = decide l.Nodup := by
  have hp : (sortI l).Perm l := List.mergeSort_perm l _
  rw [Bool.eq_iff_iff, decide_eq_true_eq, ← hp.nodup_iff]
  simp only [List.all_eq_true, List.mem_range, Bool.not_eq_true', decide_eq_false_iff_not]
  have hs := sortI_pair l
  generalize sortI l = m at hs
  have gd : ∀ i (h : i < m.length), m.getD i default = m[i] := fun i h => by rw [List.getD_eq_getElem?_getD, List.getElem?_eq_getElem h]; rfl
  constructor
  · intro h
    rw [List.nodup_iff_pairwise_ne, List.pairwise_iff_getElem]
    intro i j hi hj hij e
    have h1 := h i (by omega)
    rw [gd i hi, gd (i + 1) (by omega)] at h1
    have h2 := List.pairwise_iff_getElem.mp hs i (i + 1) hi (by omega) (by omega)
    by_cases z : i + 1 = j
    · subst z; exact h1 e.symm
    · have h3 := List.pairwise_iff_getElem.mp hs (i + 1) j (by omega) hj (by omega)
      omega
  · intro h i hi e
    rw [gd i (by omega), gd (i + 1) (by omega)] at e
    exact List.pairwise_iff_getElem.mp (List.nodup_iff_pairwise_ne.mp h) i (i + 1) (by omega) (by omega) (by omega) e.symm
theorem forL_catL {α : Type} {body : D → Sl → Mem → RS} {M : Mem} {enc : α → D} (k : Nat) (st : List D → Sl) {g : α → List D} : ∀ {items : List α} {acc : List D}, (∀ x ∈ items, (g x).length ≤ k) → acc.length + k * items.length ≤ 16777216 → (∀ acc x, x ∈ items → acc.length + k ≤ 16777216 → body (enc x) (st acc) M = .nx (st (acc ++ g x)) M) →
    forL body (items.map enc) (st acc) M = .nx (st (acc ++ items.flatMap g)) M
  | [], acc, _, _, _ => by simp [forL_nil]
  | x :: xs, acc, hk, hl, h => by
    have hx := hk x List.mem_cons_self
    rw [List.length_cons, Nat.mul_add] at hl
    rw [List.map_cons, forL_cons, h acc x List.mem_cons_self (by omega), kFl_nx]
    rw [forL_catL k st (items := xs) (acc := acc ++ g x) (fun y hy => hk y (List.mem_cons_of_mem _ hy)) (by rw [List.length_append]; omega) fun acc x hx => h acc x (List.mem_cons_of_mem _ hx)]
    simp
end VL

namespace Lw
open PySem VL
abbrev b_is_whole : List Sm := t_is_whole
abbrev b_extent : List Sm := t_extent
abbrev b_over_upright : List Sm := t_over_upright
abbrev b_over_level : List Sm := t_over_level
abbrev b_stack_over : List Sm := t_stack_over 2 3
abbrev b_is_fold : List Sm := t_is_fold 0 0 1 2
abbrev b_strip_count : List Sm := t_strip_count 1
abbrev b_check_line : List Sm := t_check_line 6 2
abbrev b_check_fold : List Sm := t_check_fold 5 1 7
abbrev b_strips_of : List Sm := t_strips_of
abbrev b_grid_of : List Sm := t_grid_of
abbrev b_span : List Sm := t_span
abbrev b_moved_strips : List Sm := t_moved_strips 4
abbrev b_still_strips : List Sm := t_still_strips
abbrev b_both_of : List Sm := t_both_of
abbrev b_overlaid : List Sm := t_overlaid 9 12 13 11 14 10
abbrev b_laid_together : List Sm := t_laid_together
abbrev b_folded : List Sm := t_folded 8 15 16
abbrev b_folded_all : List Sm := t_folded_all 17
abbrev b_is_closed : List Sm := t_is_closed 1
/- stack_of(packet): 0=packet -/
def t_stack_of (c_is_closed : Nat) (e_NotClosed : Nat) : List Sm := [.ifs (.not (.call c_is_closed [(.var 0)])) [.raise e_NotClosed] [],
  .retA (.dn (.fr (.blt .list [(.ix (.ix (.var 0) (.lit (.int 0))) (.lit (.int 0)))])))]
abbrev b_stack_of : List Sm := t_stack_of 19 3
abbrev b__law_cell : List Sm := t__law_cell
abbrev b__law_numbers : List Sm := t__law_numbers
abbrev b__law_packet : List Sm := t__law_packet 22 21
abbrev b__law_same : List Sm := t__law_same 24
abbrev b__law_copy : List Sm := t__law_copy
abbrev b__law_over : List Sm := t__law_over
abbrev b__law_spots : List Sm := t__law_spots 26
abbrev b__law_fold : List Sm := t__law_fold 27
abbrev b__law_fold_row : List Sm := t__law_fold_row 22
/- _law_row(packet, folds): 0=packet 1=folds 2=e -/
def t__law_row (c_folded_all : Nat) (e_NoSuchLine : Nat) (e_FoldedError : Nat) (e_InvalidFold : Nat) : List Sm := [.try_ [.ret (.tup [(.lit (.str "packet")), (.call c_folded_all [(.var 0), (.var 1)])])] [⟨e_NoSuchLine, some 2, (.tup [(.lit (.str "line")), (.and [(.isi e_FoldedError), (.not (.isi e_InvalidFold))])])⟩, ⟨e_InvalidFold, some 2, (.tup [(.lit (.str "fold")), (.and [(.isi e_FoldedError), (.not (.isi e_NoSuchLine))])])⟩]]
abbrev b__law_row : List Sm := t__law_row 18 2 0 1
/- _law_stack(packet): 0=packet 1=e -/
def t__law_stack (c_stack_of : Nat) (e_NotClosed : Nat) (e_FoldedError : Nat) (e_NoSuchLine : Nat) : List Sm := [.try_ [.ret (.tup [(.lit (.str "stack")), (.call c_stack_of [(.var 0)])])] [⟨e_NotClosed, some 1, (.tup [(.lit (.str "open")), (.and [(.isi e_FoldedError), .isv, (.not (.isi e_NoSuchLine))])])⟩]]
abbrev b__law_stack : List Sm := t__law_stack 20 3 0 2
/- law(script): 0=script 1=packet 2=kept 3=folds 4=due 5=k 6=done 7=told 8=open_due 9=closed 10=picks 11=spot 12=before 13=fold 14=bads 15=nones -/
def t_law_l1 (c__law_packet : Nat) (c__law_copy : Nat) (c__law_fold_row : Nat) (c__law_cell : Nat) (c__law_row : Nat) (c__law_same : Nat) (c__law_stack : Nat) (c__law_fold : Nat) (c_stack_of : Nat) (c__law_numbers : Nat) : List Sm := [.asg (.v 6) (.sl (.var 3) (.lit (.int 0)) (.var 5)),
  .asg (.v 7) (.call c__law_row [(.var 1), (.blt .list [(.var 6)])]),
  .ifs (.or [(.not (.call c__law_same [(.var 7), (.tup [(.lit (.str "packet")), (.var 4)])])), (.cmp .ne (.var 1) (.var 2))]) [.ret (.lit (.bl false))] [],
  .asg (.v 8) (.tup [(.lit (.str "open")), (.lit (.bl true))]),
  .ifs (.and [(.cmp .eq (.blt .len [(.var 4)]) (.lit (.int 1))), (.cmp .eq (.blt .len [(.ix (.var 4) (.lit (.int 0)))]) (.lit (.int 1)))]) [.asg (.v 8) (.tup [(.lit (.str "stack")), (.ix (.ix (.var 4) (.lit (.int 0))) (.lit (.int 0)))])] [],
  .ifs (.not (.call c__law_same [(.call c__law_stack [(.call c__law_copy [(.var 4)])]), (.var 8)])) [.ret (.lit (.bl false))] [],
  .ifs (.cmp .lt (.var 5) (.blt .len [(.var 3)])) [.asg (.v 4) (.call c__law_fold [(.var 4), (.ix (.var 3) (.var 5))])] [],
  .kill [5, 6, 7, 8]]
def t_law_l2 (c__law_packet : Nat) (c__law_copy : Nat) (c__law_fold_row : Nat) (c__law_cell : Nat) (c__law_row : Nat) (c__law_same : Nat) (c__law_stack : Nat) (c__law_fold : Nat) (c_stack_of : Nat) (c__law_numbers : Nat) : List Sm := [.asg (.v 12) (.call c__law_fold [(.var 12), (.var 13)]),
  .kill [13]]
def t_law (c__law_packet : Nat) (c__law_copy : Nat) (c__law_fold_row : Nat) (c__law_cell : Nat) (c__law_row : Nat) (c__law_same : Nat) (c__law_stack : Nat) (c__law_fold : Nat) (c_stack_of : Nat) (c__law_numbers : Nat) : List Sm := [.asg (.v 1) (.call c__law_packet [(.var 0), (.lit (.int 0))]),
  .asg (.v 2) (.call c__law_copy [(.var 1)]),
  .asg (.v 3) (.call c__law_fold_row [(.call c__law_cell [(.var 0), (.lit (.int 4))]), (.blt .len [(.var 1)]), (.blt .len [(.ix (.var 1) (.lit (.int 0)))])]),
  .asg (.v 4) (.var 2),
  .for_ (.v 5) .rng1 [(.bin .add (.blt .len [(.var 3)]) (.lit (.int 1)))] (t_law_l1 c__law_packet c__law_copy c__law_fold_row c__law_cell c__law_row c__law_same c__law_stack c__law_fold c_stack_of c__law_numbers),
  .ifs (.or [(.cmp .ne (.blt .len [(.var 4)]) (.lit (.int 1))), (.cmp .ne (.blt .len [(.ix (.var 4) (.lit (.int 0)))]) (.lit (.int 1)))]) [.ret (.lit (.bl false))] [],
  .asg (.v 9) (.call c__law_copy [(.var 4)]),
  .clr (.call c_stack_of [(.var 9)]),
  .ifs (.cmp .ne (.var 9) (.var 4)) [.ret (.lit (.bl false))] [],
  .asg (.v 10) (.call c__law_numbers [(.call c__law_cell [(.var 0), (.lit (.int 5))]), (.lit (.int 3)), (.lit (.int 60))]),
  .asg (.v 11) (.bin .mod (.ix (.var 10) (.lit (.int 0))) (.bin .add (.blt .len [(.var 3)]) (.lit (.int 1)))),
  .asg (.v 12) (.var 2),
  .for_ (.v 13) .seq [(.sl (.var 3) (.lit (.int 0)) (.var 11))] (t_law_l2 c__law_packet c__law_copy c__law_fold_row c__law_cell c__law_row c__law_same c__law_stack c__law_fold c_stack_of c__law_numbers),
  .asg (.v 14) (.lst [(.tup [(.lit (.str "V")), (.blt .len [(.ix (.var 12) (.lit (.int 0)))]), (.lit (.str "low")), (.lit (.str "over"))]), (.tup [(.lit (.str "H")), (.blt .len [(.var 12)]), (.lit (.str "high")), (.lit (.str "under"))]), (.tup [(.lit (.str "H")), (.lit (.int 0)), (.lit (.str "low")), (.lit (.str "over"))]), (.tup [(.lit (.str "V")), (.neg (.lit (.int 1))), (.lit (.str "low")), (.lit (.str "over"))])]),
  .ifs (.cmp .eq (.bin .mod (.ix (.var 10) (.lit (.int 1))) (.lit (.int 2))) (.lit (.int 0))) [.asg (.v 7) (.call c__law_row [(.var 1), (.bin .add (.bin .add (.sl (.var 3) (.lit (.int 0)) (.var 11)) (.lst [(.ix (.var 14) (.bin .mod (.ix (.var 10) (.lit (.int 2))) (.lit (.int 4))))])) (.sl (.var 3) (.var 11) (.lit .non)))]), .ret (.and [(.cmp .eq (.var 7) (.tup [(.lit (.str "line")), (.lit (.bl true))])), (.cmp .eq (.var 1) (.var 2))])] [],
  .asg (.v 15) (.lst [(.tup [(.lit (.str "V")), (.lit (.int 1)), (.lit (.str "low"))]), (.tup [(.lit (.str "V")), (.lit (.int 1)), (.lit (.str "low")), (.lit (.str "low"))]), (.tup [(.lit (.str "none")), (.lit (.int 1)), (.lit (.str "low")), (.lit (.str "over"))]), (.tup [(.lit (.str "H")), (.lit (.bl false)), (.lit (.str "low")), (.lit (.str "over"))])]),
  .asg (.v 7) (.call c__law_row [(.var 1), (.bin .add (.bin .add (.sl (.var 3) (.lit (.int 0)) (.var 11)) (.lst [(.ix (.var 15) (.bin .mod (.ix (.var 10) (.lit (.int 2))) (.lit (.int 4))))])) (.sl (.var 3) (.var 11) (.lit .non)))]),
  .ret (.and [(.cmp .eq (.var 7) (.tup [(.lit (.str "fold")), (.lit (.bl true))])), (.cmp .eq (.var 1) (.var 2))])]
abbrev b_law : List Sm := t_law 23 25 29 21 30 24 31 28 20 22
def P : Prog := ⟨[⟨1, 1, b_is_whole⟩, ⟨1, 1, b_extent⟩, ⟨1, 6, b_over_upright⟩, ⟨1, 6, b_over_level⟩, ⟨2, 3, b_stack_over⟩, ⟨1, 5, b_is_fold⟩, ⟨2, 4, b_strip_count⟩, ⟨3, 3, b_check_line⟩, ⟨2, 2, b_check_fold⟩, ⟨2, 4, b_strips_of⟩, ⟨2, 4, b_grid_of⟩, ⟨3, 3, b_span⟩, ⟨2, 9, b_moved_strips⟩, ⟨2, 8, b_still_strips⟩, ⟨2, 5, b_both_of⟩, ⟨2, 13, b_overlaid⟩, ⟨3, 3, b_laid_together⟩, ⟨2, 5, b_folded⟩, ⟨2, 5, b_folded_all⟩, ⟨1, 1, b_is_closed⟩, ⟨1, 1, b_stack_of⟩, ⟨2, 2, b__law_cell⟩, ⟨3, 6, b__law_numbers⟩, ⟨2, 16, b__law_packet⟩, ⟨2, 3, b__law_same⟩, ⟨1, 3, b__law_copy⟩, ⟨2, 9, b__law_over⟩, ⟨3, 14, b__law_spots⟩, ⟨2, 10, b__law_fold⟩, ⟨3, 10, b__law_fold_row⟩, ⟨2, 3, b__law_row⟩, ⟨1, 2, b__law_stack⟩, ⟨1, 16, b_law⟩],
  [(.ktup [(.str "V"), (.str "H")]), (.ktup [(.str "low"), (.str "high")]), (.ktup [(.str "over"), (.str "under")])],
  [(1, 0, true), (1, 1, true), (1, 2, false), (1, 3, false), (2, 0, true), (2, 1, false), (2, 2, true), (2, 3, false), (3, 0, true), (3, 1, false), (3, 2, false), (3, 3, true)]⟩
theorem P_is_whole : P.fns[0]? = some ⟨1, 1, b_is_whole⟩ := rfl
theorem P_extent : P.fns[1]? = some ⟨1, 1, b_extent⟩ := rfl
theorem P_over_upright : P.fns[2]? = some ⟨1, 6, b_over_upright⟩ := rfl
theorem P_over_level : P.fns[3]? = some ⟨1, 6, b_over_level⟩ := rfl
theorem P_stack_over : P.fns[4]? = some ⟨2, 3, b_stack_over⟩ := rfl
theorem P_is_fold : P.fns[5]? = some ⟨1, 5, b_is_fold⟩ := rfl
theorem P_strip_count : P.fns[6]? = some ⟨2, 4, b_strip_count⟩ := rfl
theorem P_check_line : P.fns[7]? = some ⟨3, 3, b_check_line⟩ := rfl
theorem P_check_fold : P.fns[8]? = some ⟨2, 2, b_check_fold⟩ := rfl
theorem P_strips_of : P.fns[9]? = some ⟨2, 4, b_strips_of⟩ := rfl
theorem P_grid_of : P.fns[10]? = some ⟨2, 4, b_grid_of⟩ := rfl
theorem P_span : P.fns[11]? = some ⟨3, 3, b_span⟩ := rfl
theorem P_moved_strips : P.fns[12]? = some ⟨2, 9, b_moved_strips⟩ := rfl
theorem P_still_strips : P.fns[13]? = some ⟨2, 8, b_still_strips⟩ := rfl
theorem P_both_of : P.fns[14]? = some ⟨2, 5, b_both_of⟩ := rfl
theorem P_overlaid : P.fns[15]? = some ⟨2, 13, b_overlaid⟩ := rfl
theorem P_laid_together : P.fns[16]? = some ⟨3, 3, b_laid_together⟩ := rfl
theorem P_folded : P.fns[17]? = some ⟨2, 5, b_folded⟩ := rfl
theorem P_folded_all : P.fns[18]? = some ⟨2, 5, b_folded_all⟩ := rfl
theorem P_is_closed : P.fns[19]? = some ⟨1, 1, b_is_closed⟩ := rfl
theorem P_stack_of : P.fns[20]? = some ⟨1, 1, b_stack_of⟩ := rfl
theorem P__law_cell : P.fns[21]? = some ⟨2, 2, b__law_cell⟩ := rfl
theorem P__law_numbers : P.fns[22]? = some ⟨3, 6, b__law_numbers⟩ := rfl
theorem P__law_packet : P.fns[23]? = some ⟨2, 16, b__law_packet⟩ := rfl
theorem P__law_same : P.fns[24]? = some ⟨2, 3, b__law_same⟩ := rfl
theorem P__law_copy : P.fns[25]? = some ⟨1, 3, b__law_copy⟩ := rfl
theorem P__law_over : P.fns[26]? = some ⟨2, 9, b__law_over⟩ := rfl
theorem P__law_spots : P.fns[27]? = some ⟨3, 14, b__law_spots⟩ := rfl
theorem P__law_fold : P.fns[28]? = some ⟨2, 10, b__law_fold⟩ := rfl
theorem P__law_fold_row : P.fns[29]? = some ⟨3, 10, b__law_fold_row⟩ := rfl
theorem P__law_row : P.fns[30]? = some ⟨2, 3, b__law_row⟩ := rfl
theorem P__law_stack : P.fns[31]? = some ⟨1, 2, b__law_stack⟩ := rfl
theorem P_law : P.fns[32]? = some ⟨1, 16, b_law⟩ := rfl
end Lw
namespace Lw
open PySem VL
theorem fc : FoldC P 0 1 2 := ⟨rfl, rfl, rfl⟩
theorem h_ext : S_extent P 1 := p_extent P_extent
theorem h_wh : S_is_whole P 0 := p_is_whole P_is_whole
theorem h_soV : S_stack_overV P 4 := p_stack_overV P_stack_over (p_over_upright P_over_upright)
theorem h_soH : S_stack_overH P 4 := p_stack_overH P_stack_over (p_over_level P_over_level)
theorem h_sc : S_strip_count P 6 := p_strip_count P_strip_count h_ext
theorem h_cl : S_check_line P 7 := p_check_line P_check_line h_sc
theorem h_cf : S_check_fold P 8 := p_check_fold P_check_fold (p_is_fold P_is_fold fc h_wh) h_cl
theorem h_ovl : S_overlaid P 15 := p_overlaid P_overlaid (p_strips_of P_strips_of) (p_moved P_moved_strips (.of h_soV h_soH)) (p_still P_still_strips) (p_span P_span) (p_both P_both_of) (p_grid_of P_grid_of)
theorem h_folded : S_folded2 P 17 := .of (p_folded P_folded h_cf h_ovl (p_lay P_laid_together))
theorem h_all : S_folded_all P 18 := p_folded_all P_folded_all h_folded
theorem h_cell : S__law_cell P 21 := p__law_cell P__law_cell
theorem h_num : S__law_numbers P 22 := p__law_numbers P__law_numbers
theorem h_pk : S__law_packet P 23 := p__law_packet P__law_packet h_num h_cell
theorem h_same : S__law_same P 24 := p__law_same P__law_same
theorem h_copy : S_copied P 25 := p__law_copy P__law_copy
theorem h_loV : S__law_overV P 26 := p__law_overV P__law_over
theorem h_loH : S__law_overH P 26 := p__law_overH P__law_over
theorem h_fold : S__law_fold P 28 := p__law_fold P__law_fold (p__law_spots P__law_spots (law_over2 h_loV h_loH))
theorem h_row : S__law_fold_row P 29 := p__law_fold_row P__law_fold_row h_num
/-! ### folds that cannot be made -/
theorem cl_bad (n : Nat) (p : Pk) (v : Bool) (a : Int) (M : Mem) (hp : p ≠ []) (h : ¬ (1 ≤ a ∧ a < ((strips v p).length : Nat))) : callN P (n + 3) 7 [encPk p, .str (lnS v), .int a] M = .ex 2 M := by
  rw [callN_eq P_check_line rfl]
  have e1 := h_sc n p v M hp
  by_cases l1 : (1 : Int) ≤ a
  · have l2 : ¬ a < ((strips v p).length : Nat) := fun z => h ⟨l1, z⟩
    simp! only [b_check_line, t_check_line, e1, l1, l2]
  · simp! only [b_check_line, t_check_line, e1, l1]
theorem isf (n : Nat) (v : Bool) (a : Int) (hi ov : Bool) (M : Mem) : callN P (n + 2) 5 [.tup [.str (lnS v), .int a, .str (ptS hi), .str (wyS ov)]] M = .ok (.z, .bl true) M := by
  rw [callN_eq P_is_fold rfl]
  have k1 : P.consts[0]? = some (.ktup [.str "V", .str "H"]) := rfl
  have k2 : P.consts[1]? = some (.ktup [.str "low", .str "high"]) := rfl
  have k3 : P.consts[2]? = some (.ktup [.str "over", .str "under"]) := rfl
  have w := h_wh n a M
  simp! only [b_is_fold, t_is_fold, k1, k2, k3, mem_ln, mem_pt, mem_wy, w]
theorem cf_line (n : Nat) (p : Pk) (v : Bool) (a : Int) (hi ov : Bool) (M : Mem) (hp : p ≠ []) (h : ¬ (1 ≤ a ∧ a < ((strips v p).length : Nat))) : callN P (n + 4) 8 [encPk p, .tup [.str (lnS v), .int a, .str (ptS hi), .str (wyS ov)]] M = .ex 2 M := by
  rw [callN_eq P_check_fold rfl]
  have e1 := isf (n + 1) v a hi ov M
  have e2 := cl_bad n p v a M hp h
  simp! only [b_check_fold, t_check_fold, e1, e2]
/-- what is no fold -/
def NoFold (d : D) : Prop := ∀ n M, callN P (n + 2) 5 [d] M = .ok (.z, .bl false) M
theorem cf_none (n : Nat) (p : Pk) (d : D) (M : Mem) (h : NoFold d) : callN P (n + 4) 8 [encPk p, d] M = .ex 1 M := by
  rw [callN_eq P_check_fold rfl]
  have e1 := h (n + 1) M
  simp! only [b_check_fold, t_check_fold, e1]
theorem no3 (x y z : D) : NoFold (.tup [x, y, z]) := fun n M => by
  rw [callN_eq P_is_fold rfl]
  have z1 : ¬ (3 : Int) = 4 := by decide
  simp! only [b_is_fold, t_is_fold, z1]
theorem no_way : NoFold (.tup [.str "V", .int 1, .str "low", .str "low"]) := fun n M => by
  rw [callN_eq P_is_fold rfl]
  have k1 : P.consts[0]? = some (.ktup [.str "V", .str "H"]) := rfl
  have k2 : P.consts[1]? = some (.ktup [.str "low", .str "high"]) := rfl
  have k3 : P.consts[2]? = some (.ktup [.str "over", .str "under"]) := rfl
  have m1 : cmpD .isin (.str "V") (.ktup [.str "V", .str "H"]) = some (.bl true) := by decide +kernel
  have m2 : cmpD .isin (.str "low") (.ktup [.str "low", .str "high"]) = some (.bl true) := by decide +kernel
  have m3 : cmpD .isin (.str "low") (.ktup [.str "over", .str "under"]) = some (.bl false) := by decide +kernel
  have w := h_wh n 1 M
  simp! only [b_is_fold, t_is_fold, k1, k2, k3, m1, m2, m3, w]
theorem no_line : NoFold (.tup [.str "none", .int 1, .str "low", .str "over"]) := fun n M => by
  rw [callN_eq P_is_fold rfl]
  have k1 : P.consts[0]? = some (.ktup [.str "V", .str "H"]) := rfl
  have m1 : cmpD .isin (.str "none") (.ktup [.str "V", .str "H"]) = some (.bl false) := by decide +kernel
  simp! only [b_is_fold, t_is_fold, k1, m1]
theorem no_at : NoFold (.tup [.str "H", .bl false, .str "low", .str "over"]) := fun n M => by
  rw [callN_eq P_is_fold rfl]
  have k1 : P.consts[0]? = some (.ktup [.str "V", .str "H"]) := rfl
  have m1 : cmpD .isin (.str "H") (.ktup [.str "V", .str "H"]) = some (.bl true) := by decide +kernel
  have w : callN P (n + 1) 0 [.bl false] M = .ok (.z, .bl false) M := by
    rw [callN_eq P_is_whole rfl]
    simp! only [b_is_whole, t_is_whole]
  simp! only [b_is_fold, t_is_fold, k1, m1, w]
/-- a fold that fails in every packet of this shape -/
def Fails (d : D) (p : Pk) (k : Nat) : Prop := ∀ n M, callN P (n + 4) 8 [encPk p, d] M = .ex k M
theorem folded_bad (n : Nat) (p : Pk) (d : D) (k : Nat) (M : Mem) (h : Fails d p k) : callN P (n + 5) 17 [encPk p, d] M = .ex k M := by
  rw [callN_eq P_folded rfl]
  have e1 := h n M
  simp! only [b_folded, t_folded, e1]
theorem run_pre {M : Mem} {f : D → Sl → Mem → RS} (st : Pk → Sl) (rest : List D) (hstep : ∀ p r c x, Shape p r c → r ≤ 1000 → c ≤ 1000 → OkF x r c → cnt p ≤ 1000000 → f x.enc (st p) M = .nx (st (foldP x p)) M) :
    ∀ {fs : List Fold} {r c r' c' : Nat} {p : Pk}, Shape p r c → r ≤ 1000 → c ≤ 1000 → lead r c fs r' c' → cnt p ≤ 1000000 → forL f (fs.map Fold.enc ++ rest) (st p) M = forL f rest (st (foldAll fs p)) M
  | [], _, _, _, _, p, _, _, _, _, _ => rfl
  | x :: fs, r, c, _, _, p, h, hr, hc, ⟨h1, h2⟩, ht => by
    rw [List.map_cons, List.cons_append, forL_cons, hstep p r c x h hr hc h1 ht, kFl_nx]
    have le := nx_le h1
    exact run_pre st rest hstep (fs := fs) (foldP_shape h h1) (by omega) (by omega) h2 (by
      have := tot_foldP (w := fun _ => 1) turn_one h h1
      unfold cnt at *
      omega)
theorem all_bad (n : Nat) (p : Pk) (r c r' c' : Nat) (fs : List Fold) (d : D) (rest : List D) (k : Nat) (M : Mem) (hp : Shape p r c) (hr : r ≤ 1000) (hc : c ≤ 1000) (hl : lead r c fs r' c') (ht : cnt p ≤ 1000000) (h : Fails d (foldAll fs p) k) :
    callN P (n + 6) 18 [encPk p, .lst (fs.map Fold.enc ++ d :: rest)] M = .ex k M := by
  rw [callN_eq P_folded_all rfl]
  have lp := run_pre (M := M) (f := forB (cfgN P (n + 5)) (.v 2) (t_folded_all_l1 17)) (fun p => [.fz (encPk p), .fz (.lst (fs.map Fold.enc ++ d :: rest)), .un, .un, .un]) (d :: rest) (fun p r c x h hr hc ok ht => by
    have := h_folded n p r c x M h hr hc ok (by omega)
    generalize fs.map Fold.enc ++ d :: rest = Z at *
    simp! only [forB, t_folded_all_l1, this]) hp hr hc hl ht
  have e1 := folded_bad n (foldAll fs p) d k M h
  have st : forB (cfgN P (n + 5)) (.v 2) (t_folded_all_l1 17) d [.fz (encPk (foldAll fs p)), .fz (.lst (fs.map Fold.enc ++ d :: rest)), .un, .un, .un] M = .ex k [.fz (encPk (foldAll fs p)), .fz (.lst (fs.map Fold.enc ++ d :: rest)), .fz d, .un, .un] M := by
    generalize fs.map Fold.enc ++ d :: rest = Z at *
    simp! only [forB, t_folded_all_l1, e1]
  rw [forL_cons, st, kFl_ex] at lp
  generalize fs.map Fold.enc ++ d :: rest = Z at *
  have cp : (p.map fun x => D.lst (x.map fun x => D.lst (x.map Lay.enc))) = p.map encRow := rfl
  simp only [encPk] at lp
  simp! only [b_folded_all, t_folded_all, encPk, encRow, encSt, cp, lp]
/-! ### the stack of a closed packet -/
theorem h_closed (n : Nat) (p : Pk) (r c : Nat) (M : Mem) (hp : Shape p r c) : callN P (n + 2) 19 [encPk p] M = .ok (.z, .bl (decide (r = 1 ∧ c = 1))) M := by
  rw [callN_eq P_is_closed rfl]
  have e1 := h_ext n p M hp.ne
  have l0 : (p.getD 0 []).length = c := hp.rect _ (mem_getD (d := []) (by rw [hp.len]; exact hp.r1))
  rw [hp.len, l0] at e1
  have q := c_eqD (nb_i2 (r : Int) (c : Int)) (nb_i2 1 1) (by decide) (by decide)
  have q2 : decide (D.tup [.int (r : Int), .int (c : Int)] = .tup [.int 1, .int 1]) = decide (r = 1 ∧ c = 1) := by
    rw [decide_eq_decide]
    simp only [D.tup.injEq, List.cons.injEq, D.int.injEq, and_true]
    omega
  rw [q2] at q
  generalize encPk p = pe at *
  simp! only [b_is_closed, t_is_closed, e1, q]
theorem h_stack (n : Nat) (s : Stk) (M : Mem) : callN P (n + 3) 20 [encPk [[s]]] M = .ok (.s .z, encSt s) M := by
  rw [callN_eq P_stack_of rfl]
  have e1 := h_closed n [[s]] 1 1 M ⟨rfl, fun x hx => by rw [List.mem_singleton.mp hx]; rfl, by decide, by decide⟩
  have i0 : ixD (encPk [[s]]) (.int 0) = some (encRow [s]) := rfl
  have i1 : ixD (encRow [s]) (.int 0) = some (encSt s) := rfl
  have fr : frA (encSt s) = some (.all, encSt s) := fr_flat (by
    rw [List.all_eq_true]
    intro d hd
    obtain ⟨l, _, rfl⟩ := List.mem_map.mp hd; rfl)
  have bl : bltD .list [encSt s] = some (encSt s) := rfl
  have dn : dnA (Md.all, encSt s) = some (.s .z, encSt s) := rfl
  simp! only [b_stack_of, t_stack_of, e1, i0, i1, bl, fr, dn]
theorem h_open (n : Nat) (p : Pk) (r c : Nat) (M : Mem) (hp : Shape p r c) (h : ¬ (r = 1 ∧ c = 1)) : callN P (n + 3) 20 [encPk p] M = .ex 3 M := by
  rw [callN_eq P_stack_of rfl]
  have e1 := h_closed n p r c M hp
  generalize encPk p = pe at *
  simp! only [b_stack_of, t_stack_of, e1, h]
/-! ### tried -/
theorem row_ok (n : Nat) (p : Pk) (r c r' c' : Nat) (fs : List Fold) (M : Mem) (hp : Shape p r c) (hr : r ≤ 1000) (hc : c ≤ 1000) (hl : lead r c fs r' c') (ht : cnt p ≤ 1000000) : callN P (n + 7) 30 [encPk p, .lst (fs.map Fold.enc)] M = .ok (.z, .tup [.str "packet", encPk (foldAll fs p)]) M := by
  rw [callN_eq P__law_row rfl]
  have e1 := h_all n p r c r' c' fs M hp hr hc hl (by omega)
  generalize encPk p = pe at *
  generalize encPk (foldAll fs p) = qe at *
  generalize D.lst (fs.map Fold.enc) = fe at *
  simp! only [b__law_row, t__law_row, E_try, kTr_rt, e1]
theorem row_bad (n : Nat) (p : Pk) (d : D) (M : Mem) (k : Nat) (w : Str) (hk : (k = 2 ∧ w = "line") ∨ (k = 1 ∧ w = "fold")) (h : callN P (n + 6) 18 [encPk p, d] M = .ex k M) : callN P (n + 7) 30 [encPk p, d] M = .ok (.z, .tup [.str w, .bl true]) M := by
  rw [callN_eq P__law_row rfl]
  generalize encPk p = pe at *
  rcases hk with ⟨rfl, rfl⟩ | ⟨rfl, rfl⟩
  · have hd : ∀ ρ, hdR (cfgN P (n + 6)).sub 2 [⟨2, some 2, (.tup [(.lit (.str "line")), (.and [(.isi 0), (.not (.isi 1))])])⟩, ⟨1, some 2, (.tup [(.lit (.str "fold")), (.and [(.isi 0), (.not (.isi 2))])])⟩] ρ M = .rt (.z, .tup [.str "line", .bl true]) M := fun ρ => rfl
    simp! only [b__law_row, t__law_row, E_try, kTr_ex, h, hd]
  · have hd : ∀ ρ, hdR (cfgN P (n + 6)).sub 1 [⟨2, some 2, (.tup [(.lit (.str "line")), (.and [(.isi 0), (.not (.isi 1))])])⟩, ⟨1, some 2, (.tup [(.lit (.str "fold")), (.and [(.isi 0), (.not (.isi 2))])])⟩] ρ M = .rt (.z, .tup [.str "fold", .bl true]) M := fun ρ => rfl
    simp! only [b__law_row, t__law_row, E_try, kTr_ex, h, hd]
theorem stack_ok (n : Nat) (s : Stk) (M : Mem) : callN P (n + 4) 31 [encPk [[s]]] M = .ok (.z, .tup [.str "stack", encSt s]) M := by
  rw [callN_eq P__law_stack rfl]
  have e1 := h_stack n s M
  generalize encPk [[s]] = pe at *
  simp! only [b__law_stack, t__law_stack, E_try, kTr_rt, e1]
theorem stack_open (n : Nat) (p : Pk) (r c : Nat) (M : Mem) (hp : Shape p r c) (h : ¬ (r = 1 ∧ c = 1)) : callN P (n + 4) 31 [encPk p] M = .ok (.z, .tup [.str "open", .bl true]) M := by
  rw [callN_eq P__law_stack rfl]
  have e1 := h_open n p r c M hp h
  generalize encPk p = pe at *
  have hd : ∀ ρ, hdR (cfgN P (n + 3)).sub 3 [⟨3, some 1, (.tup [(.lit (.str "open")), (.and [(.isi 0), .isv, (.not (.isi 2))])])⟩] ρ M = .rt (.z, .tup [.str "open", .bl true]) M := fun ρ => rfl
  simp! only [b__law_stack, t__law_stack, E_try, kTr_ex, e1, hd]
/-! ### a part of the folds -/
theorem lead_take : ∀ {fs : List Fold} {r c r' c' : Nat}, lead r c fs r' c' → ∀ k, k ≤ fs.length → ∃ a b, lead r c (fs.take k) a b ∧ a ≤ r ∧ b ≤ c ∧ (k < fs.length → OkF (fs.getD k ⟨true, 0, true, true⟩) a b) ∧ (k = fs.length → a = r' ∧ b = c')
  | [], r, c, r', c', ⟨h1, h2⟩, k, hk => by
    have : k = 0 := by simpa using hk
    subst this
    exact ⟨r, c, ⟨rfl, rfl⟩, Nat.le_refl _, Nat.le_refl _, fun h => by simp at h, fun _ => ⟨h1, h2⟩⟩
  | x :: fs, r, c, r', c', ⟨h1, h2⟩, 0, _ => ⟨r, c, ⟨rfl, rfl⟩, Nat.le_refl _, Nat.le_refl _, fun _ => h1, fun h => by simp at h⟩
  | x :: fs, r, c, r', c', ⟨h1, h2⟩, k + 1, hk => by
    obtain ⟨a, b, l, la, lb, q, z⟩ := lead_take h2 k (by simpa using hk)
    have le := nx_le h1
    exact ⟨a, b, ⟨h1, l⟩, by omega, by omega, fun h => by simpa using q (by simpa using h), fun h => z (by simpa using h)⟩
theorem all_take {fs : List Fold} {k : Nat} {p : Pk} (h : k < fs.length) : foldP (fs.getD k ⟨true, 0, true, true⟩) (foldAll (fs.take k) p) = foldAll (fs.take (k + 1)) p := by
  have e : fs.take (k + 1) = fs.take k ++ [fs.getD k ⟨true, 0, true, true⟩] := by
    rw [List.take_succ, List.getD_eq_getElem?_getD, List.getElem?_eq_getElem h]; rfl
  rw [e]
  unfold foldAll
  rw [List.foldl_append]; rfl
theorem cnt_all {fs : List Fold} {r c r' c' : Nat} {p : Pk} (h : Shape p r c) (hl : lead r c fs r' c') : cnt (foldAll fs p) = cnt p := foldAll_tot turn_one h hl
theorem pl_t2 {w : Str} {d : D} {n : Nat} (h : pl n d) (hn : 1 ≤ n) : pl (n + 1) (.tup [.str w, d]) := ⟨small_line (by simp), fun x hx => by
  simp only [List.mem_cons, List.not_mem_nil, or_false] at hx
  rcases hx with rfl | rfl
  · exact pl_le (n := 1) trivial hn
  · exact h⟩
theorem big_of {q : Pk} {a b : Nat} (h : Shape q a b) (ha : a ≤ 1000) (hb : b ≤ 1000) (hc : cnt q ≤ 1000000) : bigPk 1000000 q := ⟨by rw [h.len]; omega, fun x hx => ⟨by rw [h.rect x hx]; omega, fun s hs => by have := cnt_mem hx hs; omega⟩⟩
theorem len_q {q : Pk} {a b : Nat} (h : Shape q a b) : bltD .len [encPk q] = some (.int (a : Nat)) ∧ ixD (encPk q) (.int 0) = some (encRow (q.getD 0 default)) ∧ bltD .len [encRow (q.getD 0 default)] = some (.int (b : Nat)) := by
  have l0 : (q.getD 0 default).length = b := h.rect _ (mem_getD (by rw [h.len]; exact h.r1))
  refine ⟨by rw [len_pk, h.len], ix_row (by decide) (by rw [h.len]; have := h.r1; omega), by rw [len_row, l0]⟩
theorem step1 (ns : List Int) (p : Pk) (r c : Nat) (fs : List Fold) (hp : Shape p r c) (hr : r ≤ 1000) (hc : c ≤ 1000) (ht : cnt p ≤ 10000) (hl : lead r c fs 1 1) (hf : fs.length ≤ 14) (k : Nat) (hk : k ≤ fs.length) (y9 y10 y11 y12 y13 y14 y15 : SV) :
    forB (cfgN P 39) (.v 5) (t_law_l1 23 25 29 21 30 24 31 28 20 22) (.int (k : Nat)) [.fz (iL ns), .fz (encPk p), .fz (encPk p), .fz (.lst (fs.map Fold.enc)), .fz (encPk (foldAll (fs.take k) p)), .un, .un, .un, .un, y9, y10, y11, y12, y13, y14, y15] [] =
      .nx [.fz (iL ns), .fz (encPk p), .fz (encPk p), .fz (.lst (fs.map Fold.enc)), .fz (encPk (foldAll (fs.take (k + 1)) p)), .un, .un, .un, .un, y9, y10, y11, y12, y13, y14, y15] [] := by
  obtain ⟨a, b, la, ha, hb, hok, hend⟩ := lead_take hl k hk
  have sq := foldAll_shape hp la
  have cq := cnt_all hp la
  have e1 := row_ok 32 p r c a b (fs.take k) [] hp hr hc la (by omega)
  have sl : slD (.lst (fs.map Fold.enc)) (some 0) (some (k : Nat)) = some (.lst ((fs.take k).map Fold.enc)) := by
    rw [sl_both (by decide) (by omega), Int.toNat_natCast]; rfl
  have next : k < fs.length → callN P 39 28 [encPk (foldAll (fs.take k) p), (fs.getD k ⟨true, 0, true, true⟩).enc] [] = .ok (.z, encPk (foldAll (fs.take (k + 1)) p)) [] := fun h => by
    have := h_fold 36 _ a b _ [] sq (by omega) (by omega) (hok h) (by omega) rfl
    rwa [all_take h] at this
  have same_end : ¬ k < fs.length → foldAll (fs.take (k + 1)) p = foldAll (fs.take k) p := fun h => by
    have : k = fs.length := by omega
    rw [List.take_of_length_le (by omega), List.take_of_length_le (by omega)]
  have ixk : k < fs.length → ixD (.lst (fs.map Fold.enc)) (.int (k : Nat)) = some (fs.getD k ⟨true, 0, true, true⟩).enc := fun h => by
    rw [x_lst, List.getElem?_map, List.getD_eq_getElem?_getD, List.getElem?_eq_getElem h]; rfl
  have lf : bltD .len [.lst (fs.map Fold.enc)] = some (.int (fs.length : Nat)) := by rw [f_len, List.length_map]
  generalize hq : foldAll (fs.take k) p = q at *
  generalize foldAll (fs.take (k + 1)) p = q2 at *
  generalize hx : (fs.getD k ⟨true, 0, true, true⟩).enc = xe at *
  obtain ⟨l1, i1, l2⟩ := len_q sq
  have plq : pl 38 (encPk q) := pl_pk (big_of sq (by omega) (by omega) (by omega)) (by decide)
  have s1 := h_same 39 (.tup [.str "packet", encPk q]) [] (pl_t2 plq (by decide))
  have s2 := h_same 39 (.tup [.str "open", .bl true]) [] (pl_t2 (n := 38) (d := .bl true) trivial (by decide))
  have nep := ne_self (nb_pk p) (by decide)
  have cp := h_copy 38 q []
  generalize encPk p = pe at *
  generalize hFe : D.lst (fs.map Fold.enc) = fe at *
  by_cases hab : a = 1 ∧ b = 1
  · obtain ⟨rfl, rfl⟩ := hab
    obtain ⟨s, rfl⟩ := shape11 sq
    have so := stack_ok 35 s []
    have s3 := h_same 39 (.tup [.str "stack", encSt s]) [] (pl_t2 (n := 38) (by
      have hs := cnt_mem (p := [[s]]) (List.mem_cons_self) (List.mem_cons_self (a := s) (l := []))
      exact pl_le (n := 3) (pl_lst (small_line (by omega)) fun l _ => pl_lay l (by decide)) (by decide)) (by decide))
    have i0 : ixD (encPk [[s]]) (.int 0) = some (encRow [s]) := rfl
    have i2 : ixD (encRow [s]) (.int 0) = some (encSt s) := rfl
    have l2 : bltD .len [encRow [s]] = some (.int 1) := rfl
    have l1 : bltD .len [encPk [[s]]] = some (.int 1) := rfl
    have se := fun h => congrArg encPk (same_end h)
    generalize encPk [[s]] = qe at *
    by_cases hkl : k < fs.length
    · have n1 := next hkl
      have x1 := ixk hkl
      have c1 : ((k : Nat) : Int) < ((fs.length : Nat) : Int) := by omega
      simp! only [forB, t_law_l1, sl, e1, s1, nep, l1, i0, l2, i2, cp, so, s3, lf, c1, x1, n1]
    · have c1 : ¬ ((k : Nat) : Int) < ((fs.length : Nat) : Int) := by omega
      rw [se hkl]
      simp! only [forB, t_law_l1, sl, e1, s1, nep, l1, i0, l2, i2, cp, so, s3, lf, c1]
  · have so := stack_open 35 q a b [] sq hab
    generalize encRow (q.getD 0 default) = re at *
    have bq : ∀ (B : Bool), True := fun _ => trivial
    have a1 : a = 1 → ¬ b = 1 := fun h z => hab ⟨h, z⟩
    generalize encPk q = qe at *
    by_cases hkl : k < fs.length
    · have n1 := next hkl
      have x1 := ixk hkl
      have c1 : ((k : Nat) : Int) < ((fs.length : Nat) : Int) := by omega
      by_cases ha1 : ((a : Nat) : Int) = 1
      · have hb1 : ¬ ((b : Nat) : Int) = 1 := fun z => a1 (by omega) (by omega)
        simp! only [forB, t_law_l1, sl, e1, s1, nep, l1, i1, l2, cp, so, s2, lf, c1, x1, n1, ha1, hb1]
      · simp! only [forB, t_law_l1, sl, e1, s1, nep, l1, i1, l2, cp, so, s2, lf, c1, x1, n1, ha1]
    · exact absurd (hend (by omega)) hab
theorem good (ns : List Int) (hn : ns.length ≤ 63) : ∃ md M, callN P 40 32 [.lst (ns.map .int)] [] = .ok (md, .bl true) M := by
  refine ⟨.z, [], ?_⟩
  rw [callN_eq P_law rfl]
  obtain ⟨p, r, c, ok, ep⟩ := h_pk 37 ns 0 [] (by decide)
  have r1 := ok.r1
  have c1 := ok.c1
  have hp : Shape p r c := ⟨ok.hr, ok.hc, r1.1, c1.1⟩
  have ht : cnt p ≤ 10000 := by
    have : ∀ q : Pk, (∀ x ∈ q, x.length ≤ 8 ∧ ∀ s ∈ x, s.length ≤ 4) → cnt q ≤ 32 * q.length := fun q => by
      induction q with
      | nil => intro _; simp [tot]
      | cons x q ih =>
        intro h
        have ih := ih fun z hz => h z (List.mem_cons_of_mem _ hz)
        have hx := h x List.mem_cons_self
        have hr : ∀ r : Strip, (∀ s ∈ r, s.length ≤ 4) → (r.map fun s : Stk => (s.map fun _ => 1).sum).sum ≤ 4 * r.length := fun r => by
          induction r with
          | nil => intro _; simp
          | cons s r ih =>
            intro hs
            have := hs s List.mem_cons_self
            have := ih fun z hz => hs z (List.mem_cons_of_mem _ hz)
            rw [List.map_cons, List.sum_cons, sum_one, List.length_cons]
            omega
        have h2 := hr x hx.2
        have e2 : cnt (x :: q) = (x.map fun s : Stk => (s.map fun _ => 1).sum).sum + cnt q := by unfold cnt tot; rw [List.map_cons, List.sum_cons]
        rw [e2, List.length_cons]
        omega
    have := this p fun x hx => ⟨by rw [ok.hc x hx]; exact c1.2, fun s hs => (ok.s x hx s hs).2⟩
    rw [ok.hr] at this
    omega
  have ce := fun k (hk : 0 ≤ k) => h_cell 38 ns k [] hk
  have z4 : (4 : Int).toNat = 4 := rfl
  have z5 : (5 : Int).toNat = 5 := rfl
  have ce4 := ce 4 (by decide)
  have ce5 := ce 5 (by decide)
  rw [z4] at ce4
  rw [z5] at ce5
  obtain ⟨fs, hl, hfl, ef⟩ := h_row 37 (cellv ns 4) r c [] r1 c1
  have en := h_num 38 (cellv ns 5) 3 60 [] (by decide) (by decide) (by decide) (by decide)
  obtain ⟨x, y, z, e0, hx, hy, hz⟩ := nums_3 (cellv ns 5) 60 (by decide)
  rw [e0] at en
  have cp := h_copy 38 p []
  obtain ⟨l1, i1, l2⟩ := len_q hp
  have lf : bltD .len [.lst (fs.map Fold.enc)] = some (.int (fs.length : Nat)) := by rw [f_len, List.length_map]
  -- the rows of folds
  have lp := forL_N (M := []) (n := fs.length + 1) (body := forB (cfgN P 39) (.v 5) (t_law_l1 23 25 29 21 30 24 31 28 20 22)) (ρ0 := [.fz (iL ns), .fz (encPk p), .fz (encPk p), .fz (.lst (fs.map Fold.enc)), .fz (encPk p), .un, .un, .un, .un, .un, .un, .un, .un, .un, .un, .un])
    (fun k => [.fz (iL ns), .fz (encPk p), .fz (encPk p), .fz (.lst (fs.map Fold.enc)), .fz (encPk (foldAll (fs.take k) p)), .un, .un, .un, .un, .un, .un, .un, .un, .un, .un, .un]) rfl rfl fun k hk =>
      step1 ns p r c fs hp (by omega) (by omega) ht hl hfl k (by omega) .un .un .un .un .un .un .un
  rw [List.take_of_length_le (by omega)] at lp
  obtain ⟨s, es⟩ := shape11 (foldAll_shape hp hl)
  rw [es] at lp
  have ir : itD .rng1 [.int ((fs.length : Nat) + 1)] = some (rngN (fs.length + 1)) := by
    rw [show ((fs.length : Nat) : Int) + 1 = ((fs.length + 1 : Nat) : Int) by omega]
    exact i_rng1N (by omega)
  have s1 : bltD .len [encPk [[s]]] = some (.int 1) := rfl
  have s2 : ixD (encPk [[s]]) (.int 0) = some (encRow [s]) := rfl
  have s3 : bltD .len [encRow [s]] = some (.int 1) := rfl
  have cs := h_copy 38 [[s]] []
  have so := h_stack 36 s []
  have sne := ne_self (nb_pk [[s]]) (by decide)
  have ncl : ∀ ρ : Sl, True := fun _ => trivial
  -- the place of the bad fold
  obtain ⟨sp, hsp, hsp2⟩ : ∃ sp : Nat, x % (((fs.length : Nat) : Int) + 1) = sp ∧ sp ≤ fs.length := ⟨(x % (((fs.length : Nat) : Int) + 1)).toNat, by
    have := Int.emod_nonneg x (b := ((fs.length : Nat) : Int) + 1) (by omega)
    omega, by
    have := Int.emod_lt_of_pos x (b := ((fs.length : Nat) : Int) + 1) (by omega)
    have := Int.emod_nonneg x (b := ((fs.length : Nat) : Int) + 1) (by omega)
    omega⟩
  obtain ⟨a, b, la, ha, hb, _, _⟩ := lead_take hl sp hsp2
  have sq := foldAll_shape hp la
  have sl1 : slD (.lst (fs.map Fold.enc)) (some 0) (some (sp : Nat)) = some (.lst ((fs.take sp).map Fold.enc)) := by
    rw [sl_both (by decide) (by omega), Int.toNat_natCast]; rfl
  have sl2 : slD (.lst (fs.map Fold.enc)) (some (sp : Nat)) none = some (.lst ((fs.drop sp).map Fold.enc)) := by
    rw [sl_from (by omega), Int.toNat_natCast]
  have lq := run_law (M := []) (f := forB (cfgN P 39) (.v 13) (t_law_l2 23 25 29 21 30 24 31 28 20 22)) (fun q => [.fz (iL ns), .fz (encPk p), .fz (encPk p), .fz (.lst (fs.map Fold.enc)), .fz (encPk [[s]]), .un, .un, .un, .un, .fz (encPk [[s]]), .fz (.lst [.int x, .int y, .int z]), .fz (.int (sp : Nat)), .fz (encPk q), .un, .un, .un]) (fun q r' c' f h hr hc ok ht => by
    have := h_fold 36 q r' c' f [] h hr hc ok ht rfl
    generalize encPk p = pe at *
    generalize encPk [[s]] = se at *
    simp! only [forB, t_law_l2, this]) hp (by omega) (by omega) la (by omega)
  obtain ⟨q1, q2, q3⟩ := len_q sq
  have nb := fun (d : D) (k : Nat) (w : Str) (hk : (k = 2 ∧ w = "line") ∨ (k = 1 ∧ w = "fold")) (h : Fails d (foldAll (fs.take sp) p) k) =>
    row_bad 32 p _ [] k w hk (all_bad 32 p r c a b (fs.take sp) d ((fs.drop sp).map Fold.enc) k [] hp (by omega) (by omega) la (by omega) h)
  have bad : ∀ d : D, binD .add (.lst ((fs.take sp).map Fold.enc)) (.lst [d]) = some (.lst ((fs.take sp).map Fold.enc ++ [d])) ∧ binD .add (.lst ((fs.take sp).map Fold.enc ++ [d])) (.lst ((fs.drop sp).map Fold.enc)) = some (.lst ((fs.take sp).map Fold.enc ++ d :: (fs.drop sp).map Fold.enc)) := fun d => by
    refine ⟨b_addl (by rw [sizeLine_eq]; simp; omega), ?_⟩
    rw [b_addl (by rw [sizeLine_eq]; simp; omega)]
    simp
  have pne := sq.ne
  have stl : ∀ v, ((strips v (foldAll (fs.take sp) p)).length : Int) = if v = true then (b : Int) else a := fun v => by
    rw [(sq.strips v).1]; split <;> rfl
  have tl : cmpD .eq (.tup [.str "line", .bl true]) (.tup [.str "line", .bl true]) = some (.bl true) := by decide +kernel
  have tf : cmpD .eq (.tup [.str "fold", .bl true]) (.tup [.str "fold", .bl true]) = some (.bl true) := by decide +kernel
  have peq := eq_self_ (nb_pk p) (by decide)
  have line : ∀ v (n : Int) hi ov, ¬ (1 ≤ n ∧ n < if v = true then (b : Int) else a) → callN P 39 30 [encPk p, .lst ((fs.take sp).map Fold.enc ++ D.tup [.str (lnS v), .int n, .str (ptS hi), .str (wyS ov)] :: (fs.drop sp).map Fold.enc)] [] = .ok (.z, .tup [.str "line", .bl true]) [] := fun v n hi ov h =>
    nb _ 2 "line" (.inl ⟨rfl, rfl⟩) fun m M => cf_line m _ v n hi ov M pne (by rw [stl]; exact h)
  have none_ : ∀ d, NoFold d → callN P 39 30 [encPk p, .lst ((fs.take sp).map Fold.enc ++ d :: (fs.drop sp).map Fold.enc)] [] = .ok (.z, .tup [.str "fold", .bl true]) [] := fun d h =>
    nb _ 1 "fold" (.inr ⟨rfl, rfl⟩) fun m M => cf_none m _ d M h
  have L1 := line true (b : Nat) false true (by simp)
  have L2 := line false (a : Nat) true false (by simp)
  have L3 := line false 0 false true (by simp)
  have L4 := line true (-1) false true (by simp)
  simp only [lnS, ptS, wyS, if_true, if_false, Bool.false_eq_true] at L1 L2 L3 L4
  have N1 := none_ _ (no3 (.str "V") (.int 1) (.str "low"))
  have N2 := none_ _ no_way
  have N3 := none_ _ no_line
  have N4 := none_ _ no_at
  have b1 := fun d => (bad d).1
  have b2 := fun d => (bad d).2
  clear line none_ nb bad ce
  have hle : ∀ n : Nat, ixD (.lst [.int x, .int y, .int z]) (.int 0) = some (.int x) := fun _ => rfl
  have ex : ∀ ρ : Sl, True := fun _ => trivial
  generalize foldAll (fs.take sp) p = q at *
  generalize encRow (q.getD 0 default) = qr at *
  generalize encPk q = qe at *
  generalize encRow (p.getD 0 default) = pr at *
  generalize encPk p = pe at *
  generalize encPk [[s]] = se at *
  generalize encRow [s] = sr at *
  generalize (fs.take sp).map Fold.enc = ft at *
  generalize (fs.drop sp).map Fold.enc = fd at *
  generalize D.lst (fs.map Fold.enc) = fe at *
  have sz : encSt s = .lst (s.map Lay.enc) := rfl
  rw [sz] at so
  simp only [iL, List.map_cons, List.map_nil] at ep ce4 ce5 lp lq en
  have y2 : y % 2 = 0 ∨ y % 2 = 1 := by omega
  have z1 : ¬ (1 : Int) = 0 := by decide
  have z4 : z % 4 = 0 ∨ z % 4 = 1 ∨ z % 4 = 2 ∨ z % 4 = 3 := by omega
  rcases y2 with y2 | y2
  · rcases z4 with z4 | z4 | z4 | z4 <;> simp! only [b_law, t_law, ep, ce4, ce5, ef, l1, i1, l2, cp, lf, ir, lp, s1, s2, s3, cs, so, sne, en, hsp, sl1, sl2, lq, q1, q2, q3, y2, z4, b1, b2, L1, L2, L3, L4, tl, peq]
  · rcases z4 with z4 | z4 | z4 | z4 <;> simp! only [b_law, t_law, ep, ce4, ce5, ef, l1, i1, l2, cp, lf, ir, lp, s1, s2, s3, cs, so, sne, en, hsp, sl1, sl2, lq, q1, q2, q3, y2, z4, b1, b2, N1, N2, N3, N4, tf, peq, z1]
end Lw

/-! ### the text, its facts, the head -/
namespace Lw
open PySem PySem.Spec PyProof.Rows L2 VL
def nmF0 : List Str := ["is_whole", "extent", "over_upright", "over_level", "stack_over", "is_fold", "strip_count", "check_line", "check_fold", "strips_of", "grid_of", "span", "moved_strips", "still_strips", "both_of", "overlaid", "laid_together", "folded", "folded_all", "is_closed", "stack_of", "_law_cell", "_law_numbers", "_law_packet", "_law_same"]
def nmF1 : List Str := ["_law_copy", "_law_over", "_law_spots", "_law_fold", "_law_fold_row", "_law_row", "_law_stack", "law"]
def nm : Nms := ⟨nmF0 ++ nmF1, ["LINES", "PARTS", "WAYS"], ["FoldedError", "InvalidFold", "NoSuchLine", "NotClosed"]⟩
def top (i : Nat) : Stmt := PySem.Challenge.pw_quirebound_k06_rows_of_folds.main.body.getD i (.Pass ⟨0, 0, 0, 0⟩)
def d_is_whole : He.DefD := ⟨("is_whole", none), "is_whole", "is_whole", defArgs (top 6), defBody (top 6), defScope (top 6), [], []⟩
def d_extent : He.DefD := ⟨("extent", none), "extent", "extent", defArgs (top 7), defBody (top 7), defScope (top 7), [], []⟩
def d_over_upright : He.DefD := ⟨("over_upright", none), "over_upright", "over_upright", defArgs (top 8), defBody (top 8), defScope (top 8), [], []⟩
def d_over_level : He.DefD := ⟨("over_level", none), "over_level", "over_level", defArgs (top 9), defBody (top 9), defScope (top 9), [], []⟩
def d_stack_over : He.DefD := ⟨("stack_over", none), "stack_over", "stack_over", defArgs (top 10), defBody (top 10), defScope (top 10), [], []⟩
def d_is_fold : He.DefD := ⟨("is_fold", none), "is_fold", "is_fold", defArgs (top 15), defBody (top 15), defScope (top 15), [], []⟩
def d_strip_count : He.DefD := ⟨("strip_count", none), "strip_count", "strip_count", defArgs (top 16), defBody (top 16), defScope (top 16), [], []⟩
def d_check_line : He.DefD := ⟨("check_line", none), "check_line", "check_line", defArgs (top 17), defBody (top 17), defScope (top 17), [], []⟩
def d_check_fold : He.DefD := ⟨("check_fold", none), "check_fold", "check_fold", defArgs (top 18), defBody (top 18), defScope (top 18), [], []⟩
def d_strips_of : He.DefD := ⟨("strips_of", none), "strips_of", "strips_of", defArgs (top 19), defBody (top 19), defScope (top 19), [], []⟩
def d_grid_of : He.DefD := ⟨("grid_of", none), "grid_of", "grid_of", defArgs (top 20), defBody (top 20), defScope (top 20), [], []⟩
def d_span : He.DefD := ⟨("span", none), "span", "span", defArgs (top 21), defBody (top 21), defScope (top 21), [], []⟩
def d_moved_strips : He.DefD := ⟨("moved_strips", none), "moved_strips", "moved_strips", defArgs (top 22), defBody (top 22), defScope (top 22), [], []⟩
def d_still_strips : He.DefD := ⟨("still_strips", none), "still_strips", "still_strips", defArgs (top 23), defBody (top 23), defScope (top 23), [], []⟩
def d_both_of : He.DefD := ⟨("both_of", none), "both_of", "both_of", defArgs (top 24), defBody (top 24), defScope (top 24), [], []⟩
def d_overlaid : He.DefD := ⟨("overlaid", none), "overlaid", "overlaid", defArgs (top 25), defBody (top 25), defScope (top 25), [], []⟩
def d_laid_together : He.DefD := ⟨("laid_together", none), "laid_together", "laid_together", defArgs (top 26), defBody (top 26), defScope (top 26), [], []⟩
def d_folded : He.DefD := ⟨("folded", none), "folded", "folded", defArgs (top 27), defBody (top 27), defScope (top 27), [], []⟩
def d_folded_all : He.DefD := ⟨("folded_all", none), "folded_all", "folded_all", defArgs (top 28), defBody (top 28), defScope (top 28), [], []⟩
def d_is_closed : He.DefD := ⟨("is_closed", none), "is_closed", "is_closed", defArgs (top 29), defBody (top 29), defScope (top 29), [], []⟩
def d_stack_of : He.DefD := ⟨("stack_of", none), "stack_of", "stack_of", defArgs (top 30), defBody (top 30), defScope (top 30), [], []⟩
def d__law_cell : He.DefD := ⟨("_law_cell", none), "_law_cell", "_law_cell", defArgs (top 32), defBody (top 32), defScope (top 32), [], []⟩
def d__law_numbers : He.DefD := ⟨("_law_numbers", none), "_law_numbers", "_law_numbers", defArgs (top 33), defBody (top 33), defScope (top 33), [], []⟩
def d__law_packet : He.DefD := ⟨("_law_packet", none), "_law_packet", "_law_packet", defArgs (top 34), defBody (top 34), defScope (top 34), [], []⟩
def d__law_same : He.DefD := ⟨("_law_same", none), "_law_same", "_law_same", defArgs (top 35), defBody (top 35), defScope (top 35), [], []⟩
def d__law_copy : He.DefD := ⟨("_law_copy", none), "_law_copy", "_law_copy", defArgs (top 36), defBody (top 36), defScope (top 36), [], []⟩
def d__law_over : He.DefD := ⟨("_law_over", none), "_law_over", "_law_over", defArgs (top 37), defBody (top 37), defScope (top 37), [], []⟩
def d__law_spots : He.DefD := ⟨("_law_spots", none), "_law_spots", "_law_spots", defArgs (top 38), defBody (top 38), defScope (top 38), [], []⟩
def d__law_fold : He.DefD := ⟨("_law_fold", none), "_law_fold", "_law_fold", defArgs (top 39), defBody (top 39), defScope (top 39), [], []⟩
def d__law_fold_row : He.DefD := ⟨("_law_fold_row", none), "_law_fold_row", "_law_fold_row", defArgs (top 40), defBody (top 40), defScope (top 40), [], []⟩
def d__law_row : He.DefD := ⟨("_law_row", none), "_law_row", "_law_row", defArgs (top 41), defBody (top 41), defScope (top 41), [], []⟩
def d__law_stack : He.DefD := ⟨("_law_stack", none), "_law_stack", "_law_stack", defArgs (top 42), defBody (top 42), defScope (top 42), [], []⟩
def d_law : He.DefD := ⟨("law", none), "law", "law", defArgs (top 43), defBody (top 43), defScope (top 43), [], []⟩
def fn : List He.DefD := [d_is_whole, d_extent, d_over_upright, d_over_level, d_stack_over, d_is_fold, d_strip_count, d_check_line, d_check_fold, d_strips_of, d_grid_of, d_span, d_moved_strips, d_still_strips, d_both_of, d_overlaid, d_laid_together, d_folded, d_folded_all, d_is_closed, d_stack_of, d__law_cell, d__law_numbers, d__law_packet, d__law_same, d__law_copy, d__law_over, d__law_spots, d__law_fold, d__law_fold_row, d__law_row, d__law_stack, d_law]
def ex : VL.Ex3 := ⟨[("LINES", [(.str "V"), (.str "H")]), ("PARTS", [(.str "low"), (.str "high")]), ("WAYS", [(.str "over"), (.str "under")])], ["InvalidFold", "NoSuchLine", "NotClosed"], [("InvalidFold", "FoldedError", true), ("InvalidFold", "InvalidFold", true), ("InvalidFold", "NoSuchLine", false), ("InvalidFold", "NotClosed", false), ("NoSuchLine", "FoldedError", true), ("NoSuchLine", "InvalidFold", false), ("NoSuchLine", "NoSuchLine", true), ("NoSuchLine", "NotClosed", false), ("NotClosed", "FoldedError", true), ("NotClosed", "InvalidFold", false), ("NotClosed", "NoSuchLine", false), ("NotClosed", "NotClosed", true)]⟩
def fa0 : List He.Fa := [.glo "is_whole", .glo "extent", .glo "over_upright", .glo "over_level", .glo "stack_over", .glo "is_fold", .glo "strip_count", .glo "check_line", .glo "check_fold", .glo "strips_of", .glo "grid_of", .glo "span", .glo "moved_strips", .glo "still_strips", .glo "both_of", .glo "overlaid", .glo "laid_together", .glo "folded", .glo "folded_all", .glo "is_closed", .glo "stack_of", .glo "_law_cell", .glo "_law_numbers", .glo "_law_packet", .glo "_law_same", .glo "_law_copy", .glo "_law_over", .glo "_law_spots", .glo "_law_fold", .glo "_law_fold_row"]
def fa1 : List He.Fa := [.glo "_law_row", .glo "_law_stack", .glo "law", .free "len", .free "int", .free "list", .free "tuple", .free "max", .free "min", .free "abs", .free "sum", .free "sorted", .free "any", .free "all", .free "str", .free "range", .free "reversed", .free "zip", .free "enumerate", .free "isinstance", .free "bool", .free "dict", .free "ValueError", .glo "LINES", .glo "PARTS", .glo "WAYS", .glo "FoldedError", .exc "FoldedError", .glo "InvalidFold", .exc "InvalidFold"]
def fa2 : List He.Fa := [.glo "NoSuchLine", .exc "NoSuchLine", .glo "NotClosed", .exc "NotClosed"]
def fa : List He.Fa := fa0 ++ fa1 ++ fa2
theorem m_is_whole : mFn nm ["number"] ["number"] ⟨1, 1, b_is_whole⟩ d_is_whole = true := by decide +kernel
theorem m_extent : mFn nm ["packet"] ["packet"] ⟨1, 1, b_extent⟩ d_extent = true := by decide +kernel
theorem m_over_upright : mFn nm ["layer", "sheet", "row", "col", "face", "turn"] ["layer"] ⟨1, 6, b_over_upright⟩ d_over_upright = true := by decide +kernel
theorem m_over_level : mFn nm ["layer", "sheet", "row", "col", "face", "turn"] ["layer"] ⟨1, 6, b_over_level⟩ d_over_level = true := by decide +kernel
theorem m_stack_over : mFn nm ["stack", "line", "layer"] ["stack", "line"] ⟨2, 3, b_stack_over⟩ d_stack_over = true := by decide +kernel
theorem m_is_fold : mFn nm ["fold", "line", "at", "part", "way"] ["fold"] ⟨1, 5, b_is_fold⟩ d_is_fold = true := by decide +kernel
theorem m_strip_count : mFn nm ["packet", "line", "rows", "cols"] ["packet", "line"] ⟨2, 4, b_strip_count⟩ d_strip_count = true := by decide +kernel
theorem m_check_line : mFn nm ["packet", "line", "at"] ["packet", "line", "at"] ⟨3, 3, b_check_line⟩ d_check_line = true := by decide +kernel
theorem m_check_fold : mFn nm ["packet", "fold"] ["packet", "fold"] ⟨2, 2, b_check_fold⟩ d_check_fold = true := by decide +kernel
theorem m_strips_of : mFn nm ["packet", "line", "row", "col"] ["packet", "line"] ⟨2, 4, b_strips_of⟩ d_strips_of = true := by decide +kernel
theorem m_grid_of : mFn nm ["strips", "line", "strip", "row"] ["strips", "line"] ⟨2, 4, b_grid_of⟩ d_grid_of = true := by decide +kernel
theorem m_span : mFn nm ["count", "at", "part"] ["count", "at", "part"] ⟨3, 3, b_span⟩ d_span = true := by decide +kernel
theorem m_moved_strips : mFn nm ["strips", "fold", "line", "at", "part", "_", "found", "k", "stack"] ["strips", "fold"] ⟨2, 9, b_moved_strips⟩ d_moved_strips = true := by decide +kernel
theorem m_still_strips : mFn nm ["strips", "fold", "_", "at", "part", "found", "k", "stack"] ["strips", "fold"] ⟨2, 8, b_still_strips⟩ d_still_strips = true := by decide +kernel
theorem m_both_of : mFn nm ["moved", "still", "one", "other", "stack"] ["moved", "still"] ⟨2, 5, b_both_of⟩ d_both_of = true := by decide +kernel
theorem m_overlaid : mFn nm ["packet", "fold", "line", "at", "part", "_", "strips", "moved", "still", "first", "stop", "found", "place"] ["packet", "fold"] ⟨2, 13, b_overlaid⟩ d_overlaid = true := by decide +kernel
theorem m_laid_together : mFn nm ["moved", "still", "way"] ["moved", "still", "way"] ⟨3, 3, b_laid_together⟩ d_laid_together = true := by decide +kernel
theorem m_folded : mFn nm ["packet", "fold", "row", "moved", "still"] ["packet", "fold"] ⟨2, 5, b_folded⟩ d_folded = true := by decide +kernel
theorem m_folded_all : mFn nm ["packet", "folds", "fold", "row", "stack"] ["packet", "folds"] ⟨2, 5, b_folded_all⟩ d_folded_all = true := by decide +kernel
theorem m_is_closed : mFn nm ["packet"] ["packet"] ⟨1, 1, b_is_closed⟩ d_is_closed = true := by decide +kernel
theorem m_stack_of : mFn nm ["packet"] ["packet"] ⟨1, 1, b_stack_of⟩ d_stack_of = true := by decide +kernel
theorem m__law_cell : mFn nm ["script", "k"] ["script", "k"] ⟨2, 2, b__law_cell⟩ d__law_cell = true := by decide +kernel
theorem m__law_numbers : mFn nm ["cell", "count", "limit", "found", "k", "mixed"] ["cell", "count", "limit"] ⟨3, 6, b__law_numbers⟩ d__law_numbers = true := by decide +kernel
theorem m__law_packet : mFn nm ["script", "at", "shape", "rows", "cols", "heights", "parts", "sheets", "found", "many", "r", "line", "c", "stack", "k", "bits"] ["script", "at"] ⟨2, 16, b__law_packet⟩ d__law_packet = true := by decide +kernel
theorem m__law_same : mFn nm ["told", "due", "k"] ["told", "due"] ⟨2, 3, b__law_same⟩ d__law_same = true := by decide +kernel
theorem m__law_copy : mFn nm ["packet", "row", "stack"] ["packet"] ⟨1, 3, b__law_copy⟩ d__law_copy = true := by decide +kernel
theorem m__law_over : mFn nm ["stack", "line", "found", "k", "sheet", "row", "col", "face", "turn"] ["stack", "line"] ⟨2, 9, b__law_over⟩ d__law_over = true := by decide +kernel
theorem m__law_spots : mFn nm ["packet", "fold", "moving", "line", "at", "part", "way", "found", "r", "c", "k", "moved", "stack", "spot"] ["packet", "fold", "moving"] ⟨3, 14, b__law_spots⟩ d__law_spots = true := by decide +kernel
theorem m__law_fold : mFn nm ["packet", "fold", "moved", "still", "spots", "found", "last", "spot", "above", "below"] ["packet", "fold"] ⟨2, 10, b__law_fold⟩ d__law_fold = true := by decide +kernel
theorem m__law_fold_row : mFn nm ["cell", "rows", "cols", "draws", "folds", "k", "pick", "part", "way", "at"] ["cell", "rows", "cols"] ⟨3, 10, b__law_fold_row⟩ d__law_fold_row = true := by decide +kernel
theorem m__law_row : mFn nm ["packet", "folds", "e"] ["packet", "folds"] ⟨2, 3, b__law_row⟩ d__law_row = true := by decide +kernel
theorem m__law_stack : mFn nm ["packet", "e"] ["packet"] ⟨1, 2, b__law_stack⟩ d__law_stack = true := by decide +kernel
theorem m_law : mFn nm ["script", "packet", "kept", "folds", "due", "k", "done", "told", "open_due", "closed", "picks", "spot", "before", "fold", "bads", "nones"] ["script"] ⟨1, 16, b_law⟩ d_law = true := by decide +kernel
section
variable {K : PySem.W.Frag} {h : Heap} {mg : Str → Option Value}
theorem tx_fns (X : K.In h) (G : h.Ns mainGlobals mg) (c : He.SaysD fa fn K) : ∀ (f : Nat) x, nm.fns[f]? = some x → ∃ (a : Addr) (fd : FuncData) (N ps : List Str) (d : He.DefD) (F : Fn), mg x = some (.ref a) ∧ PySem.W.keepIn K (.ref a) = true ∧ Binds K fd ps [] ∧ P.fns[f]? = some F ∧ mFn nm N ps F d = true ∧
    FunD K d.name d.qual d.params d.body d.scope (d.dvs K) (d.kws K) a fd
  | 0, x, hx => by
    cases hx
    obtain ⟨fd, D0⟩ := c.def_ 0 (d := d_is_whole) rfl
    exact ⟨_, fd, _, _, _, _, He.glo_ok X G (c.fact 0 (f := .glo "is_whole") rfl), D0.kp, FunD.bindsN D0 (fun _ _ _ _ _ _ us hl => match us, hl with | [_], _ => rfl), P_is_whole, m_is_whole, D0⟩
  | 1, x, hx => by
    cases hx
    obtain ⟨fd, D0⟩ := c.def_ 1 (d := d_extent) rfl
    exact ⟨_, fd, _, _, _, _, He.glo_ok X G (c.fact 1 (f := .glo "extent") rfl), D0.kp, FunD.bindsN D0 (fun _ _ _ _ _ _ us hl => match us, hl with | [_], _ => rfl), P_extent, m_extent, D0⟩
  | 2, x, hx => by
    cases hx
    obtain ⟨fd, D0⟩ := c.def_ 2 (d := d_over_upright) rfl
    exact ⟨_, fd, _, _, _, _, He.glo_ok X G (c.fact 2 (f := .glo "over_upright") rfl), D0.kp, FunD.bindsN D0 (fun _ _ _ _ _ _ us hl => match us, hl with | [_], _ => rfl), P_over_upright, m_over_upright, D0⟩
  | 3, x, hx => by
    cases hx
    obtain ⟨fd, D0⟩ := c.def_ 3 (d := d_over_level) rfl
    exact ⟨_, fd, _, _, _, _, He.glo_ok X G (c.fact 3 (f := .glo "over_level") rfl), D0.kp, FunD.bindsN D0 (fun _ _ _ _ _ _ us hl => match us, hl with | [_], _ => rfl), P_over_level, m_over_level, D0⟩
  | 4, x, hx => by
    cases hx
    obtain ⟨fd, D0⟩ := c.def_ 4 (d := d_stack_over) rfl
    exact ⟨_, fd, _, _, _, _, He.glo_ok X G (c.fact 4 (f := .glo "stack_over") rfl), D0.kp, FunD.bindsN D0 (fun _ _ _ _ _ _ us hl => match us, hl with | [_, _], _ => rfl), P_stack_over, m_stack_over, D0⟩
  | 5, x, hx => by
    cases hx
    obtain ⟨fd, D0⟩ := c.def_ 5 (d := d_is_fold) rfl
    exact ⟨_, fd, _, _, _, _, He.glo_ok X G (c.fact 5 (f := .glo "is_fold") rfl), D0.kp, FunD.bindsN D0 (fun _ _ _ _ _ _ us hl => match us, hl with | [_], _ => rfl), P_is_fold, m_is_fold, D0⟩
  | 6, x, hx => by
    cases hx
    obtain ⟨fd, D0⟩ := c.def_ 6 (d := d_strip_count) rfl
    exact ⟨_, fd, _, _, _, _, He.glo_ok X G (c.fact 6 (f := .glo "strip_count") rfl), D0.kp, FunD.bindsN D0 (fun _ _ _ _ _ _ us hl => match us, hl with | [_, _], _ => rfl), P_strip_count, m_strip_count, D0⟩
  | 7, x, hx => by
    cases hx
    obtain ⟨fd, D0⟩ := c.def_ 7 (d := d_check_line) rfl
    exact ⟨_, fd, _, _, _, _, He.glo_ok X G (c.fact 7 (f := .glo "check_line") rfl), D0.kp, FunD.bindsN D0 (fun _ _ _ _ _ _ us hl => match us, hl with | [_, _, _], _ => rfl), P_check_line, m_check_line, D0⟩
  | 8, x, hx => by
    cases hx
    obtain ⟨fd, D0⟩ := c.def_ 8 (d := d_check_fold) rfl
    exact ⟨_, fd, _, _, _, _, He.glo_ok X G (c.fact 8 (f := .glo "check_fold") rfl), D0.kp, FunD.bindsN D0 (fun _ _ _ _ _ _ us hl => match us, hl with | [_, _], _ => rfl), P_check_fold, m_check_fold, D0⟩
  | 9, x, hx => by
    cases hx
    obtain ⟨fd, D0⟩ := c.def_ 9 (d := d_strips_of) rfl
    exact ⟨_, fd, _, _, _, _, He.glo_ok X G (c.fact 9 (f := .glo "strips_of") rfl), D0.kp, FunD.bindsN D0 (fun _ _ _ _ _ _ us hl => match us, hl with | [_, _], _ => rfl), P_strips_of, m_strips_of, D0⟩
  | 10, x, hx => by
    cases hx
    obtain ⟨fd, D0⟩ := c.def_ 10 (d := d_grid_of) rfl
    exact ⟨_, fd, _, _, _, _, He.glo_ok X G (c.fact 10 (f := .glo "grid_of") rfl), D0.kp, FunD.bindsN D0 (fun _ _ _ _ _ _ us hl => match us, hl with | [_, _], _ => rfl), P_grid_of, m_grid_of, D0⟩
  | 11, x, hx => by
    cases hx
    obtain ⟨fd, D0⟩ := c.def_ 11 (d := d_span) rfl
    exact ⟨_, fd, _, _, _, _, He.glo_ok X G (c.fact 11 (f := .glo "span") rfl), D0.kp, FunD.bindsN D0 (fun _ _ _ _ _ _ us hl => match us, hl with | [_, _, _], _ => rfl), P_span, m_span, D0⟩
  | 12, x, hx => by
    cases hx
    obtain ⟨fd, D0⟩ := c.def_ 12 (d := d_moved_strips) rfl
    exact ⟨_, fd, _, _, _, _, He.glo_ok X G (c.fact 12 (f := .glo "moved_strips") rfl), D0.kp, FunD.bindsN D0 (fun _ _ _ _ _ _ us hl => match us, hl with | [_, _], _ => rfl), P_moved_strips, m_moved_strips, D0⟩
  | 13, x, hx => by
    cases hx
    obtain ⟨fd, D0⟩ := c.def_ 13 (d := d_still_strips) rfl
    exact ⟨_, fd, _, _, _, _, He.glo_ok X G (c.fact 13 (f := .glo "still_strips") rfl), D0.kp, FunD.bindsN D0 (fun _ _ _ _ _ _ us hl => match us, hl with | [_, _], _ => rfl), P_still_strips, m_still_strips, D0⟩
  | 14, x, hx => by
    cases hx
    obtain ⟨fd, D0⟩ := c.def_ 14 (d := d_both_of) rfl
    exact ⟨_, fd, _, _, _, _, He.glo_ok X G (c.fact 14 (f := .glo "both_of") rfl), D0.kp, FunD.bindsN D0 (fun _ _ _ _ _ _ us hl => match us, hl with | [_, _], _ => rfl), P_both_of, m_both_of, D0⟩
  | 15, x, hx => by
    cases hx
    obtain ⟨fd, D0⟩ := c.def_ 15 (d := d_overlaid) rfl
    exact ⟨_, fd, _, _, _, _, He.glo_ok X G (c.fact 15 (f := .glo "overlaid") rfl), D0.kp, FunD.bindsN D0 (fun _ _ _ _ _ _ us hl => match us, hl with | [_, _], _ => rfl), P_overlaid, m_overlaid, D0⟩
  | 16, x, hx => by
    cases hx
    obtain ⟨fd, D0⟩ := c.def_ 16 (d := d_laid_together) rfl
    exact ⟨_, fd, _, _, _, _, He.glo_ok X G (c.fact 16 (f := .glo "laid_together") rfl), D0.kp, FunD.bindsN D0 (fun _ _ _ _ _ _ us hl => match us, hl with | [_, _, _], _ => rfl), P_laid_together, m_laid_together, D0⟩
  | 17, x, hx => by
    cases hx
    obtain ⟨fd, D0⟩ := c.def_ 17 (d := d_folded) rfl
    exact ⟨_, fd, _, _, _, _, He.glo_ok X G (c.fact 17 (f := .glo "folded") rfl), D0.kp, FunD.bindsN D0 (fun _ _ _ _ _ _ us hl => match us, hl with | [_, _], _ => rfl), P_folded, m_folded, D0⟩
  | 18, x, hx => by
    cases hx
    obtain ⟨fd, D0⟩ := c.def_ 18 (d := d_folded_all) rfl
    exact ⟨_, fd, _, _, _, _, He.glo_ok X G (c.fact 18 (f := .glo "folded_all") rfl), D0.kp, FunD.bindsN D0 (fun _ _ _ _ _ _ us hl => match us, hl with | [_, _], _ => rfl), P_folded_all, m_folded_all, D0⟩
  | 19, x, hx => by
    cases hx
    obtain ⟨fd, D0⟩ := c.def_ 19 (d := d_is_closed) rfl
    exact ⟨_, fd, _, _, _, _, He.glo_ok X G (c.fact 19 (f := .glo "is_closed") rfl), D0.kp, FunD.bindsN D0 (fun _ _ _ _ _ _ us hl => match us, hl with | [_], _ => rfl), P_is_closed, m_is_closed, D0⟩
  | 20, x, hx => by
    cases hx
    obtain ⟨fd, D0⟩ := c.def_ 20 (d := d_stack_of) rfl
    exact ⟨_, fd, _, _, _, _, He.glo_ok X G (c.fact 20 (f := .glo "stack_of") rfl), D0.kp, FunD.bindsN D0 (fun _ _ _ _ _ _ us hl => match us, hl with | [_], _ => rfl), P_stack_of, m_stack_of, D0⟩
  | 21, x, hx => by
    cases hx
    obtain ⟨fd, D0⟩ := c.def_ 21 (d := d__law_cell) rfl
    exact ⟨_, fd, _, _, _, _, He.glo_ok X G (c.fact 21 (f := .glo "_law_cell") rfl), D0.kp, FunD.bindsN D0 (fun _ _ _ _ _ _ us hl => match us, hl with | [_, _], _ => rfl), P__law_cell, m__law_cell, D0⟩
  | 22, x, hx => by
    cases hx
    obtain ⟨fd, D0⟩ := c.def_ 22 (d := d__law_numbers) rfl
    exact ⟨_, fd, _, _, _, _, He.glo_ok X G (c.fact 22 (f := .glo "_law_numbers") rfl), D0.kp, FunD.bindsN D0 (fun _ _ _ _ _ _ us hl => match us, hl with | [_, _, _], _ => rfl), P__law_numbers, m__law_numbers, D0⟩
  | 23, x, hx => by
    cases hx
    obtain ⟨fd, D0⟩ := c.def_ 23 (d := d__law_packet) rfl
    exact ⟨_, fd, _, _, _, _, He.glo_ok X G (c.fact 23 (f := .glo "_law_packet") rfl), D0.kp, FunD.bindsN D0 (fun _ _ _ _ _ _ us hl => match us, hl with | [_, _], _ => rfl), P__law_packet, m__law_packet, D0⟩
  | 24, x, hx => by
    cases hx
    obtain ⟨fd, D0⟩ := c.def_ 24 (d := d__law_same) rfl
    exact ⟨_, fd, _, _, _, _, He.glo_ok X G (c.fact 24 (f := .glo "_law_same") rfl), D0.kp, FunD.bindsN D0 (fun _ _ _ _ _ _ us hl => match us, hl with | [_, _], _ => rfl), P__law_same, m__law_same, D0⟩
  | 25, x, hx => by
    cases hx
    obtain ⟨fd, D0⟩ := c.def_ 25 (d := d__law_copy) rfl
    exact ⟨_, fd, _, _, _, _, He.glo_ok X G (c.fact 25 (f := .glo "_law_copy") rfl), D0.kp, FunD.bindsN D0 (fun _ _ _ _ _ _ us hl => match us, hl with | [_], _ => rfl), P__law_copy, m__law_copy, D0⟩
  | 26, x, hx => by
    cases hx
    obtain ⟨fd, D0⟩ := c.def_ 26 (d := d__law_over) rfl
    exact ⟨_, fd, _, _, _, _, He.glo_ok X G (c.fact 26 (f := .glo "_law_over") rfl), D0.kp, FunD.bindsN D0 (fun _ _ _ _ _ _ us hl => match us, hl with | [_, _], _ => rfl), P__law_over, m__law_over, D0⟩
  | 27, x, hx => by
    cases hx
    obtain ⟨fd, D0⟩ := c.def_ 27 (d := d__law_spots) rfl
    exact ⟨_, fd, _, _, _, _, He.glo_ok X G (c.fact 27 (f := .glo "_law_spots") rfl), D0.kp, FunD.bindsN D0 (fun _ _ _ _ _ _ us hl => match us, hl with | [_, _, _], _ => rfl), P__law_spots, m__law_spots, D0⟩
  | 28, x, hx => by
    cases hx
    obtain ⟨fd, D0⟩ := c.def_ 28 (d := d__law_fold) rfl
    exact ⟨_, fd, _, _, _, _, He.glo_ok X G (c.fact 28 (f := .glo "_law_fold") rfl), D0.kp, FunD.bindsN D0 (fun _ _ _ _ _ _ us hl => match us, hl with | [_, _], _ => rfl), P__law_fold, m__law_fold, D0⟩
  | 29, x, hx => by
    cases hx
    obtain ⟨fd, D0⟩ := c.def_ 29 (d := d__law_fold_row) rfl
    exact ⟨_, fd, _, _, _, _, He.glo_ok X G (c.fact 29 (f := .glo "_law_fold_row") rfl), D0.kp, FunD.bindsN D0 (fun _ _ _ _ _ _ us hl => match us, hl with | [_, _, _], _ => rfl), P__law_fold_row, m__law_fold_row, D0⟩
  | 30, x, hx => by
    cases hx
    obtain ⟨fd, D0⟩ := c.def_ 30 (d := d__law_row) rfl
    exact ⟨_, fd, _, _, _, _, He.glo_ok X G (c.fact 30 (f := .glo "_law_row") rfl), D0.kp, FunD.bindsN D0 (fun _ _ _ _ _ _ us hl => match us, hl with | [_, _], _ => rfl), P__law_row, m__law_row, D0⟩
  | 31, x, hx => by
    cases hx
    obtain ⟨fd, D0⟩ := c.def_ 31 (d := d__law_stack) rfl
    exact ⟨_, fd, _, _, _, _, He.glo_ok X G (c.fact 31 (f := .glo "_law_stack") rfl), D0.kp, FunD.bindsN D0 (fun _ _ _ _ _ _ us hl => match us, hl with | [_], _ => rfl), P__law_stack, m__law_stack, D0⟩
  | 32, x, hx => by
    cases hx
    obtain ⟨fd, D0⟩ := c.def_ 32 (d := d_law) rfl
    exact ⟨_, fd, _, _, _, _, He.glo_ok X G (c.fact 32 (f := .glo "law") rfl), D0.kp, FunD.bindsN D0 (fun _ _ _ _ _ _ us hl => match us, hl with | [_], _ => rfl), P_law, m_law, D0⟩
  | n + 33, x, hx => by simp [nm, nmF0, nmF1] at hx
theorem tx_blt (X : K.In h) (G : h.Ns mainGlobals mg) (c : He.SaysD fa fn K) : ∀ x ∈ bltNames, mg x = none := by
  intro x hx
  simp only [bltNames, List.mem_cons, List.not_mem_nil, or_false] at hx
  rcases hx with rfl | rfl | rfl | rfl | rfl | rfl | rfl | rfl | rfl | rfl | rfl | rfl | rfl | rfl | rfl | rfl | rfl | rfl | rfl | rfl
  · exact He.free_ok X G (c.fact 33 (f := .free "len") rfl)
  · exact He.free_ok X G (c.fact 34 (f := .free "int") rfl)
  · exact He.free_ok X G (c.fact 35 (f := .free "list") rfl)
  · exact He.free_ok X G (c.fact 36 (f := .free "tuple") rfl)
  · exact He.free_ok X G (c.fact 37 (f := .free "max") rfl)
  · exact He.free_ok X G (c.fact 38 (f := .free "min") rfl)
  · exact He.free_ok X G (c.fact 39 (f := .free "abs") rfl)
  · exact He.free_ok X G (c.fact 40 (f := .free "sum") rfl)
  · exact He.free_ok X G (c.fact 41 (f := .free "sorted") rfl)
  · exact He.free_ok X G (c.fact 42 (f := .free "any") rfl)
  · exact He.free_ok X G (c.fact 43 (f := .free "all") rfl)
  · exact He.free_ok X G (c.fact 44 (f := .free "str") rfl)
  · exact He.free_ok X G (c.fact 45 (f := .free "range") rfl)
  · exact He.free_ok X G (c.fact 46 (f := .free "reversed") rfl)
  · exact He.free_ok X G (c.fact 47 (f := .free "zip") rfl)
  · exact He.free_ok X G (c.fact 48 (f := .free "enumerate") rfl)
  · exact He.free_ok X G (c.fact 49 (f := .free "isinstance") rfl)
  · exact He.free_ok X G (c.fact 50 (f := .free "bool") rfl)
  · exact He.free_ok X G (c.fact 51 (f := .free "dict") rfl)
  · exact He.free_ok X G (c.fact 52 (f := .free "ValueError") rfl)
def cl (K : PySem.W.Frag) : Nat → Value := fun k => .ref (He.ga K (nm.excs.getD k ""))
theorem tx_excs (X : K.In h) (G : h.Ns mainGlobals mg) (c : He.SaysD fa fn K) : ∀ (k : Nat) x, nm.excs[k]? = some x → ∃ C, cl K k = .ref C ∧ mg x = some (.ref C) ∧ PySem.W.keepIn K (.ref C) = true ∧
    PySem.W.excIn K C [.type "ValueError", .type "Exception", .type "BaseException", .type "object"] "ValueError.__new__" = true ∧
    PySem.W.subIn K (.ref C) (.type "BaseException") = some true ∧ PySem.W.typeIn K (.ref C) = some (.type "type")
  | 0, x, hx => by
    cases hx
    obtain ⟨e1, e2, e3, e4⟩ := He.exc_ok (c.fact 57 (f := .exc "FoldedError") rfl)
    exact ⟨_, rfl, He.glo_ok X G (c.fact 56 (f := .glo "FoldedError") rfl), e2, e1, e3, e4⟩
  | 1, x, hx => by
    cases hx
    obtain ⟨e1, e2, e3, e4⟩ := He.exc_ok (c.fact 59 (f := .exc "InvalidFold") rfl)
    exact ⟨_, rfl, He.glo_ok X G (c.fact 58 (f := .glo "InvalidFold") rfl), e2, e1, e3, e4⟩
  | 2, x, hx => by
    cases hx
    obtain ⟨e1, e2, e3, e4⟩ := He.exc_ok (c.fact 61 (f := .exc "NoSuchLine") rfl)
    exact ⟨_, rfl, He.glo_ok X G (c.fact 60 (f := .glo "NoSuchLine") rfl), e2, e1, e3, e4⟩
  | 3, x, hx => by
    cases hx
    obtain ⟨e1, e2, e3, e4⟩ := He.exc_ok (c.fact 63 (f := .exc "NotClosed") rfl)
    exact ⟨_, rfl, He.glo_ok X G (c.fact 62 (f := .glo "NotClosed") rfl), e2, e1, e3, e4⟩
  | n + 4, x, hx => by simp [nm] at hx
theorem tx_consts (X : K.In h) (G : h.Ns mainGlobals mg) (c : He.SaysD fa fn K) (c0 : VL.SaysX fa fn ex K) : ∀ (k : Nat) x d, nm.consts[k]? = some x → P.consts[k]? = some d → ∃ u v, mg x = some u ∧ RelV v u ∧ Rep K [] (fun _ => none) v d
  | 0, x, d, hx, hd => by
    cases hx
    cases hd
    exact ⟨_, .ref (He.ga K "LINES"), He.glo_ok X G (c.fact 53 (f := .glo "LINES") rfl), rfl, .ktup (He.tupB_ok (c0.tup (t := ("LINES", [(.str "V"), (.str "H")])) (by simp [ex])) _) (.cons (.str _) (.cons (.str _) .nil))⟩
  | 1, x, d, hx, hd => by
    cases hx
    cases hd
    exact ⟨_, .ref (He.ga K "PARTS"), He.glo_ok X G (c.fact 54 (f := .glo "PARTS") rfl), rfl, .ktup (He.tupB_ok (c0.tup (t := ("PARTS", [(.str "low"), (.str "high")])) (by simp [ex])) _) (.cons (.str _) (.cons (.str _) .nil))⟩
  | 2, x, d, hx, hd => by
    cases hx
    cases hd
    exact ⟨_, .ref (He.ga K "WAYS"), He.glo_ok X G (c.fact 55 (f := .glo "WAYS") rfl), rfl, .ktup (He.tupB_ok (c0.tup (t := ("WAYS", [(.str "over"), (.str "under")])) (by simp [ex])) _) (.cons (.str _) (.cons (.str _) .nil))⟩
  | n + 3, x, d, hx, _ => by simp [nm] at hx
theorem tx_subs (c0 : VL.SaysX fa fn ex K) : ∀ (k d : Nat) b, P.sub k d = some b → ∃ D C, cl K k = .ref D ∧ cl K d = .ref C ∧ L2.ExcC K D ∧ PySem.W.exmOne K (.ref D) (.ref C) = some b ∧ PySem.W.kitOne K (.ref D) (.ref C) = some b ∧ PySem.W.kitOne K (.ref D) (.type "ValueError") = some true :=
  VL.subs_ok c0 (fun _ => rfl) (fun t ht => by
    simp only [P, List.mem_cons, List.not_mem_nil, or_false] at ht
    rcases ht with rfl | rfl | rfl | rfl | rfl | rfl | rfl | rfl | rfl | rfl | rfl | rfl
    all_goals exact ⟨by simp [ex, nm], by simp [ex, nm]⟩)
theorem tx (X : K.In h) (G : h.Ns mainGlobals mg) (c : He.SaysD fa fn K) (c0 : VL.SaysX fa fn ex K) : Tx P nm (cl K) K mg := ⟨tx_fns X G c, tx_consts X G c c0, tx_blt X G c, tx_excs X G c, tx_subs c0⟩
end
def loose0 : List Str := ["FoldedError", "InvalidFold", "NoSuchLine", "NotClosed", "is_whole", "extent", "over_upright", "over_level", "stack_over", "LINES", "PARTS", "WAYS", "is_fold", "strip_count", "check_line", "check_fold", "strips_of", "grid_of", "span", "moved_strips", "still_strips", "both_of", "overlaid", "laid_together", "folded"]
def loose1 : List Str := ["folded_all", "is_closed", "stack_of", "_law_cell", "_law_numbers", "_law_packet", "_law_same", "_law_copy", "_law_over", "_law_spots", "_law_fold", "_law_fold_row", "_law_row", "_law_stack"]
def loose : List Str := loose0 ++ loose1
abbrev R : PySem.W.OpenRow := PySem.W.OpenLaw.row PySem.Challenge.rw_quirebound_k06_rows_of_folds
abbrev hk : PySem.W.Hook := VL.hookX 4 fa fn ex
def ob (s : PySem.W.SharedT) : VL.AlX := VL.obsXG 4 fa fn ex (HandSHeadRun.getT s)
theorem ob_eq (s : PySem.W.SharedT) : ob s = hk.obs s.abs := VL.obsXG_eq (HandSHeadRun.getT_eq s)
theorem run (w : World) : HandSHeadRun.RunEq R (PySem.W.view R.prog [43]) hk ob 20000 loose w := by
  intro os
  kernel_rfl
/-- what is left: the law, as the evaluator has it -/
def Good : Prop := ∀ ns : List Int, ns.length ≤ 63 → ∃ md M, callN P 40 32 [.lst (ns.map .int)] [] = .ok (md, .bl true) M
end Lw
open PySem PySem.W PySem.Calls PyProof.Rows
theorem Lw.holds (good : Lw.Good) : PySem.Challenge.rw_quirebound_k06_rows_of_folds.Holds := by
  w_on; o_law
  refine HandSHeadRun.head_any (r := OpenLaw.row PySem.Challenge.rw_quirebound_k06_rows_of_folds) (q := view (OpenLaw.row PySem.Challenge.rw_quirebound_k06_rows_of_folds).prog [43]) (H := Lw.hk) (ob := Lw.ob) (M := 20000) (loose := Lw.loose) (d := HandSHeadRun.topDef (OpenLaw.row PySem.Challenge.rw_quirebound_k06_rows_of_folds).prog 43) (kwd := []) Lw.ob_eq
    (by kernel_rfl) (fun s => by kernel_rfl) Lw.run (by kernel_rfl) (by kernel_rfl) (by kernel_rfl) (by rfl) (by first | assumption | decide +kernel) (by decide +kernel) ⟨rfl, rfl, rfl, rfl, rfl, by decide +kernel⟩ ?hw ?hc
  case hw => w_witness2
  case hc =>
    refine L2.walk_ofE (l := PySem.Challenge.rw_quirebound_k06_rows_of_folds) (n := 63) (k := 40) (x := "script") (CX := L2.CX0) rfl (by decide) (by kernel_rfl) ⟨rfl, by decide, by decide⟩ ?F (fun _ _ _ _ z => z)
    intro w mg fa h Y G hmg0
    obtain ⟨K, KX, c0⟩ := Y
    have c := c0.d
    have hmg : mg ("law" : PySem.Str) = some (.ref fa) := by
      have e : (HandSHeadRun.topDef (OpenLaw.row PySem.Challenge.rw_quirebound_k06_rows_of_folds).prog 43).name = ("law" : PySem.Str) := by kernel_rfl
      rw [← e]
      exact hmg0
    obtain ⟨fd, D0⟩ := He.SaysD.def_ c 32 (d := Lw.d_law) rfl
    have e := hmg.symm.trans (He.glo_ok KX G (He.SaysD.fact c 32 (f := .glo "law") rfl))
    cases e
    have b := L2.FunD.bindsA (ps := ["script"]) D0 fun _ _ _ _ _ _ us hl => match us, hl with | [_], _ => rfl
    exact ⟨K, fd, fun vs H Q _ => VL.spF K (Lw.cl K) Lw.P 40 32 vs H Q fun _ _ _ => False, KX, fun s v => b s [v] rfl, fun H a ns hl _ hS => let ⟨_, _, z⟩ := good ns hl; VL.law_sp z hS,
      fun base _ G' => VL.fn_nox (VL.fn_ok (VL.Tx.fx (Lw.tx KX G c c0) 39) Lw.P_law Lw.m_law D0)⟩
theorem PySem.Challenge.cw_quirebound_k06_rows_of_folds_holds : PySem.Challenge.rw_quirebound_k06_rows_of_folds.Holds := by
  exact Lw.holds Lw.good
