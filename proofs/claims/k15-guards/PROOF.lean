import PyProof.Rows.All
import Wide.All
import OpenK.AllK
import Wide.FinOn
import HandS.ForMost
import HandS.ForExc
import HandS.CallSlots
import HandS.Flow
import HandS.TryMany
import HandS.Deep
import HandS.Text
import KE.SortData
import PyProof.ReprLen
import PyProof.ReprReads
import HandS.HeadHook1
import HandS.ExcIs
import HandS.TupMul
import HandS.Wide
import HandS.RevTup
import HandS.Dict
import KE.DataEq
import KE.KEqDict
import HandS.DictComp
import PyProof.NeKinds
import HandS.DictTup
import HandS.Set
import HandS.SetFor
import KE.KDictSum
import HandS.RaiseMore
import HandS.ExcValue
import HandS.Conv
import KE.KeyNested
import PyProof.EqKinds
import PyProof.DictRoadsH
import PyProof.MeetsDict
import KE.KDictDisplayH
import KE.KDictPairs
import KE.SortCalls
import HandS.DictSubView
import HandS.SortKw
import KE.DataMinMax
import HandS.TupLen
import PyProof.ReprRoads
import HandS.TupAny
import HandS.Zip
import HandS.Style
import HandS.IsInst
import HandS.Defaults
import HandS.HeadEnd
import HandS.ExcOwn
import KE.GoesEnum
import KE.GoesMore
import HandS.Iter
import HandS.TupSets
import HandS.WordsExc
import HandS.HeadHook2
import PyProof.StrLawsTight
import PyProof.StrLawsChain
import PyProof.Rows.StrFin3
import PySem.Challenge.RW_stillso_k15_guards
import HandS.Head0
import HandS.Head1
import HandS.Head2
set_option Elab.async false
set_option linter.all false
set_option maxRecDepth 100000
set_option maxHeartbeats 0
/-! MiA: a small language over plain data: what a program's defs compute, without addresses. -/
namespace Mi
open PySem

/-- plain data; a loc is a place in the store -/
inductive D where
  | non | bl (b : Bool) | int (i : Int) | str (s : Str)
  | tup (xs : List D) | lst (xs : List D) | exc (c : Nat) | loc (n : Nat) | odd
  /-- nought, in a name of the module: a pair of it is no key that may be stored -/
  | zr
  deriving Inhabited

/-- dk: a dict of numbers and texts; dt: a dict whose keys are pairs of ints -/
inductive Cell where
  | lst (xs : List D) | dk (kvs : List (L2.Key × D)) | dt (kvs : List (List L2.Key × D))
instance : Inhabited Cell := ⟨.lst []⟩
abbrev Store := List Cell
abbrev Env := List (Option D)

inductive R (α : Type) where
  | ok (a : α) (s : Store) | exc (c : Nat) (s : Store) | fault
def R.bind {α β : Type} (r : R α) (f : α → Store → R β) : R β := match r with
  | .ok a s => f a s
  | .exc c s => .exc c s
  | .fault => .fault
@[simp] theorem R.bind_ok {α β : Type} (a : α) (s : Store) (f : α → Store → R β) : (R.ok a s).bind f = f a s := rfl
@[simp] theorem R.bind_exc {α β : Type} (c : Nat) (s : Store) (f : α → Store → R β) : (R.exc c s : R α).bind f = .exc c s := rfl
@[simp] theorem R.bind_fault {α β : Type} (f : α → Store → R β) : (R.fault : R α).bind f = .fault := rfl
/-- no exception may leave -/
def R.calm {α : Type} : R α → R α
  | .ok a s => .ok a s
  | _ => .fault
@[simp] theorem R.calm_ok {α : Type} (a : α) (s : Store) : (R.ok a s).calm = .ok a s := rfl
@[simp] theorem R.calm_exc {α : Type} (c : Nat) (s : Store) : (R.exc c s : R α).calm = .fault := rfl
@[simp] theorem R.calm_fault {α : Type} : (R.fault : R α).calm = .fault := rfl

inductive BOp where
  | add | sub | mul | fdiv | mod | pow | band
  deriving DecidableEq
inductive COp where
  | eq | ne | lt | le | gt | ge | isc | isn | inn | nin
  deriving DecidableEq
inductive Ty where
  | int | bool | str | tuple | list | dict | cls (c : Nat)
  deriving DecidableEq
inductive Prm where
  | len | tuple | list | int | str | bool | sum | max | min | abs | all | any | sorted | repr | set | dict | sortedset | lenset
  deriving DecidableEq
inductive Mth where
  | append | extend | clear | reverse | pop | index | count | join | split | get | items | values | setdefault | update | insert | replace | startswith | upper
  deriving DecidableEq

inductive E where
  | var (i : Nat)
  | cst (d : D)
  | glo (x : Str) (d : D)
  | tup (es : List E)
  | lst (fz : Bool) (es : List E)
  | bin (op : BOp) (fz : Bool) (a b : E)
  | neg (a : E)
  | cmp (op : COp) (a b : E)
  | chn (o p : COp) (a b c : E)
  | and (a b : E)
  | or (a b : E)
  | not (a : E)
  | ite (c a b : E)
  | call (fz : Bool) (f : Nat) (es : List E) (df : List D)
  | prm (p : Prm) (fz : Bool) (es : List E)
  | isa (a : E) (tys : List Ty)
  | idx (a b : E)
  | slc (fz : Bool) (a : E) (lo hi : List E)
  | rev (fz : Bool) (a : E)
  | mth (m : Mth) (fz : Bool) (o : E) (es : List E)
  | dic (es : List E)
  | dit (i j : Int) (e : E)
  | odc
  | srs (fz : Bool) (a : E)
  | lns (a : E)
  | mxv (a : E)
  | sit (a : E)
  | comp (fz : Bool) (own : List Nat) (tg : List Nat) (one : Bool) (it : E) (c : List E) (elt : E)
  | iSeq (a : E)
  | iRng (es : List E)
  | iEnm (a : E)
  | iZip (a b : E)

inductive S where
  | asg (i : Nat) (e : E)
  | unp (is : List Nat) (e : E)
  | par (is : List Nat) (es : List E)
  | seti (o i v : E)
  | exp (e : E)
  | ret (e : E)
  | ret0
  | iff (c : E) (a b : List S)
  | forr (tg : List Nat) (one : Bool) (it : E) (b : List S)
  | whl (c : E) (b : List S)
  | rais (c : Nat) (e : E)
  | tri (b : List S) (xs : List Nat) (cs : Nat) (nm : List Nat) (h : List S)
  | cont
  | pass
  | dead

/-! ### data -/
mutual
def flat : D → Bool
  | .loc _ => false
  | .tup xs => flats xs
  | .lst xs => flats xs
  | _ => true
def flats : List D → Bool
  | [] => true
  | x :: xs => flat x && flats xs
end
/- no place from n on -/
mutual
def below (n : Nat) : D → Bool
  | .loc l => decide (l < n)
  | .tup xs => belows n xs
  | .lst xs => belows n xs
  | _ => true
def belows (n : Nat) : List D → Bool
  | [] => true
  | x :: xs => below n x && belows n xs
end
mutual
def dep : D → Nat
  | .tup xs => deps xs + 1
  | .lst xs => deps xs + 1
  | _ => 0
def deps : List D → Nat
  | [] => 0
  | x :: xs => max (dep x) (deps xs)
end
/- == of data (no places, no exceptions) -/
mutual
def eqv : D → D → Bool
  | .non, .non => true
  | .bl a, .bl b => a == b
  | .bl a, .int j => (if a then 1 else 0) == j
  | .int i, .bl b => i == (if b then 1 else 0)
  | .int i, .int j => i == j
  | .zr, .zr => true
  | .zr, .int j => (0 : Int) == j
  | .zr, .bl b => (0 : Int) == (if b then 1 else 0)
  | .int i, .zr => i == (0 : Int)
  | .bl a, .zr => (if a then 1 else 0) == (0 : Int)
  | .str x, .str y => x == y
  | .lst xs, .lst ys => eqvs xs ys
  | .tup xs, .tup ys => eqvs xs ys
  | _, _ => false
def eqvs : List D → List D → Bool
  | [], [] => true
  | x :: xs, y :: ys => eqv x y && eqvs xs ys
  | _, _ => false
end
/- data that may be compared: of no place, no exception, not too deep -/
mutual
def plain : D → Bool
  | .loc _ => false
  | .odd => false
  | .exc _ => false
  | .tup xs => plains xs
  | .lst xs => plains xs
  | _ => true
def plains : List D → Bool
  | [] => true
  | x :: xs => plain x && plains xs
end
/-- a list at a place, told by what is in it -/
def look (st : Store) : D → D
  | .loc l => match st[l]? with
    | some (.lst xs) => .lst xs
    | _ => .loc l
  | d => d
/-- a thing as it stands now, lists that may change told by what is in them -/
def deepN (st : Store) : Nat → D → D
  | 0, d => d
  | n + 1, .tup xs => .tup (xs.map (deepN st n))
  | n + 1, .lst xs => .lst (xs.map (deepN st n))
  | n + 1, .loc l => match st[l]? with
    | some (.lst xs) => .lst (xs.map (deepN st n))
    | _ => .loc l
  | _ + 1, d => d
def deep (st : Store) (d : D) : D := deepN st 12 d
def comparable (a b : D) : Bool := plain a && plain b && decide (min (dep a) (dep b) ≤ 60)

/-! data in order -/
mutual
def toPy : D → PyData
  | .non => .none
  | .bl b => .bool b
  | .int i => .int i
  | .zr => .int 0
  | .str s => .str s
  | .tup xs => .tuple (toPys xs)
  | .lst xs => .list (toPys xs)
  | .exc _ => .none
  | .loc _ => .none
  | .odd => .none
def toPys : List D → List PyData
  | [] => []
  | x :: xs => toPy x :: toPys xs
end
/-- what may be sorted: data of one form -/
def sortOk (xs : List D) : Bool := plains xs && xs.all (fun a => xs.all fun b => PySem.W.alike (toPy a) (toPy b)) && (xs.all (fun a => match a with | .tup (_ :: _) => true | _ => false) || xs.all (fun a => match a with | .tup _ => false | .non => false | _ => true)) && decide (deps xs ≤ 60) && decide (xs.length ≤ sizeLine)
/-- what may be shown by repr: a list, a tuple of data -/
def showOk (d : D) : Bool := (match d with | .tup _ => true | .lst _ => true | _ => false) && (plain d && (PyData.layable0 (toPy d) && (PyData.showable (toPy d) && (PyData.intsShort 13 (toPy d) && decide (PyData.depth (toPy d) ≤ 60)))))
def sortD (xs : List D) : List D := xs.mergeSort (PySem.W.dataLe false toPy)
/-- a pair of ints -/
def intPair : List D → Bool
  | [.int _, .int _] => true
  | _ => false
/-- what may be a key in a pair that a dict is made of -/
def keyHd : D → Bool
  | .str _ => true
  | .int _ => true
  | .tup [.int _, .int _] => true
  | _ => false
def pairHd : D → Bool
  | .tup [k, _] => keyHd k
  | _ => false
/-- pairs, as a dict may be made of: such a tuple is plain -/
def pairy (ds : List D) : Bool := ds.all pairHd
/-- a tuple's head, a text -/
def headD : D → Option Str
  | .tup (.str x :: _) => some x
  | _ => none
def headsOk (xs : List D) : Bool := xs.all (fun d => (headD d).isSome) && decide ((xs.filterMap headD).Nodup) && decide (xs.length ≤ sizeLine)
def sortH (xs : List D) : List D := xs.mergeSort (PySem.W.dataLe false fun d => .str ((headD d).getD ""))
/-- each once -/
def once (zs : List Str) : List Str := zs.foldr (fun z r => if z ∈ r then r else z :: r) []
/-! dicts of numbers and texts -/
def keyD : D → Option L2.Key
  | .int i => some (.inl i)
  | .str s => some (.inr s)
  | _ => none
def kD : L2.Key → D
  | .inl i => .int i
  | .inr s => .str s
section
variable {κ : Type} [DecidableEq κ]
def dval (kvs : List (κ × D)) (k : κ) : Option D := (kvs.find? fun kv => decide (kv.1 = k)).map (·.2)
def dput (kvs : List (κ × D)) (k : κ) (v : D) : List (κ × D) := if (kvs.any fun kv => decide (kv.1 = k)) = true then kvs.map (fun kv => if kv.1 = k then (kv.1, v) else kv) else kvs ++ [(k, v)]
def dmerge (kvs more : List (κ × D)) : List (κ × D) := more.foldl (fun acc kv => dput acc kv.1 kv.2) kvs
end
/-- a pair of ints as a key -/
def pkD : D → Option (List L2.Key)
  | .tup [.int i, .int j] => some [.inl i, .inl j]
  | .tup [.int i, .zr] => some [.inl i, .inl 0]
  | _ => none
/-- .. that may be stored -/
def pkS : D → Option (List L2.Key)
  | .tup [.int i, .int j] => some [.inl i, .inl j]
  | _ => none
def tkD (k : List L2.Key) : D := .tup (k.map kD)
/-- the dict at a place -/
def dctAt (st : Store) (d : D) : Option (Nat × List (L2.Key × D)) := match d with
  | .loc l => (match st[l]? with | some (.dk kvs) => some (l, kvs) | _ => none)
  | _ => none
def dttAt (st : Store) (d : D) : Option (Nat × List (List L2.Key × D)) := match d with
  | .loc l => (match st[l]? with | some (.dt kvs) => some (l, kvs) | _ => none)
  | _ => none
def pairD : List D → Option (List (L2.Key × D))
  | [] => some []
  | [_] => none
  | k :: v :: r => (match keyD k, pairD r with | some x, some q => some ((x, v) :: q) | _, _ => none)
/-- pairs, as a dict is made of -/
def pairT : List D → Option (List (L2.Key × D))
  | [] => some []
  | .tup [k, v] :: r => (match keyD k, pairT r with | some x, some q => some ((x, v) :: q) | _, _ => none)
  | _ => none
def pairPT : List D → Option (List (List L2.Key × D))
  | [] => some []
  | .tup [k, v] :: r => (match pkS k, pairPT r with | some x, some q => some ((x, v) :: q) | _, _ => none)
  | _ => none
def madeD (ds : List D) (st : Store) : R D := match pairD ds with
  | some kvs => if kvs.length ≤ 15 then .ok (.loc st.length) (st ++ [.dk (dmerge [] kvs)]) else .fault
  | none => .fault
/-- the items of a list, a tuple, a text -/
def items (st : Store) (d : D) : Option (List D) := match look st d with
  | .lst xs => some xs
  | .tup xs => some xs
  | _ => none
def chars (s : Str) : List D := s.cps.toList.map fun c => .str ⟨#[c]⟩
/-- the place of a list that may change; inr: its things are told with their numbers -/
abbrev Src := Nat ⊕ Nat
/-- what a for walks; the place of a list that may change -/
def walks (st : Store) (d : D) : Option (List D × Option Src) := match d with
  | .lst xs => some (xs, none)
  | .tup xs => some (xs, none)
  | .str s => some (chars s, none)
  | .loc l => match st[l]? with
    | some (.lst xs) => some (xs, some (.inl l))
    | _ => none
  | _ => none
def enumD (xs : List D) : List D := (List.range xs.length).zipWith (fun (k : Nat) x => .tup [.int (k : Int), x]) xs
def stands (st : Store) (xs : List D) : Option Src → Prop
  | none => True
  | some (.inl l) => st[l]? = some (.lst xs)
  | some (.inr l) => ∃ ys, xs = enumD ys ∧ st[l]? = some (.lst ys)

def truth (st : Store) (d : D) : Option Bool := match look st d with
  | .non => some false
  | .bl b => some b
  | .int i => some (i != 0)
  | .str s => if s.length ≤ sizeLine then some ((s.length : Int) != 0) else none
  | .lst xs => some !xs.isEmpty
  | .tup xs => some !xs.isEmpty
  | d => (dctAt st d).map fun p => !p.2.isEmpty

def ixN (n : Nat) (i : Int) : Option Nat := if 0 ≤ i then (if i < n then some i.toNat else none) else if -(n : Int) ≤ i then some (i + n).toNat else none
def sIx (n d : Nat) : Option Int → Nat := HT.sIx n d
def cut {α : Type} (xs : List α) (lo hi : Option Int) : List α := (xs.drop (sIx xs.length 0 lo)).take (sIx xs.length xs.length hi - sIx xs.length 0 lo)

/-- a new list: at a new place, or for good -/
def made (fz : Bool) (xs : List D) (st : Store) : R D := if xs.length ≤ sizeLine then (if fz then .ok (.lst xs) st else .ok (.loc st.length) (st ++ [.lst xs])) else .fault
end Mi
namespace Mi
open PySem

def subIn (i j : Str) : Bool := !(Builtin.Str.occurrences j i 0 j.length 1).isEmpty
def small64 (i : Int) : Bool := decide (-(2 ^ 64) < i) && decide (i < 2 ^ 64)
def rep {α : Type} (xs : List α) (k : Int) : List α := (List.replicate k.toNat xs).flatten

def srep (x : Str) (k : Int) : Str := ⟨(List.replicate k.toNat x.cps.toList).flatten.toArray⟩
def binop (op : BOp) (fz : Bool) (a b : D) (st : Store) : R D := match op with
  | .add => (match look st a, look st b with
    | .int i, .int j => .ok (.int (i + j)) st
    | .str x, .str y => if x.length + y.length ≤ sizeLine then .ok (.str (x ++ y)) st else .fault
    | .tup xs, .tup ys => if xs.length + ys.length ≤ sizeLine then .ok (.tup (xs ++ ys)) st else .fault
    | .lst xs, .lst ys => made fz (xs ++ ys) st
    | _, _ => .fault)
  | .sub => (match a, b with
    | .int i, .int j => .ok (.int (i - j)) st
    | _, _ => .fault)
  | .mul => (match look st a, b with
    | .int i, .int j => if small64 i || small64 j then .ok (.int (i * j)) st else .fault
    | .tup xs, .int k => if xs.length ≤ 1000 ∧ k ≤ 1000 ∧ -1000 ≤ k then .ok (.tup (rep xs k)) st else .fault
    | .lst xs, .int k => if xs.length ≤ 1000 ∧ k ≤ 1000 ∧ -1000 ≤ k then made fz (rep xs k) st else .fault
    | .str x, .int k => if x.length ≤ 1000 ∧ 0 ≤ k ∧ k ≤ 1000 then .ok (.str (srep x k)) st else .fault
    | _, _ => .fault)
  | .fdiv => (match a, b with
    | .int i, .int j => if j ≠ 0 ∧ j.natAbs < 1073741824 then .ok (.int (i.fdiv j)) st else .fault
    | _, _ => .fault)
  | .mod => (match a, b with
    | .int i, .int j => if j ≠ 0 then .ok (.int (i.fmod j)) st else .fault
    | _, _ => .fault)
  | .pow => (match a, b with
    | .int i, .int j => if 0 ≤ j ∧ j ≤ 1000000 ∧ i.natAbs < 2 ^ 64 then .ok (.int (i ^ j.toNat)) st else .fault
    | _, _ => .fault)
  | .band => (match a, b with
    | .int i, .int j => .ok (.int (Builtin.bitAnd i j)) st
    | _, _ => .fault)

def same (a b : D) : Option Bool := match b with
  | .non => some (match a with | .non => true | _ => false)
  | .bl k => some (match a with | .bl c => c == k | _ => false)
  | _ => none
def inseq (a : D) (xs : List D) : Option Bool := if plain a && xs.all (fun x => comparable x a) then some (xs.any fun x => eqv x a) else none
def member (st : Store) (a b : D) : Option Bool := match look st b with
  | .str y => (match a with | .str x => some (subIn x y) | _ => none)
  | .tup xs => inseq (look st a) xs
  | .lst xs => inseq (look st a) xs
  | b => (match dctAt st b, keyD a with | some p, some k => some (dval p.2 k).isSome | _, _ => (match dttAt st b, pkD a with | some p, some k => some (dval p.2 k).isSome | _, _ => none))
def less (a b : D) : Option Bool := match a, b with
  | .int i, .int j => some (decide (i < j))
  | .str x, .str y => some (decide (x.cps.toList < y.cps.toList))
  | _, _ => none
/-- held against the empty tuple, the empty dict -/
def emptyEq (st : Store) (a b : D) : Option Bool := match a, b with
  | .tup xs, .tup [] => some xs.isEmpty
  | a, b => (match dctAt st a, dctAt st b with
    | some p, some q => if q.2.isEmpty then some p.2.isEmpty else none
    | none, some q => (match dttAt st a with | some p => if q.2.isEmpty then some p.2.isEmpty else none | none => none)
    | _, _ => none)
def boolR (o : Option Bool) (st : Store) : R D := match o with
  | some k => .ok (.bl k) st
  | none => .fault
def compop (op : COp) (a b : D) (st : Store) : R D := match op with
  | .eq => if comparable (look st a) (look st b) then .ok (.bl (eqv (look st a) (look st b))) st else boolR (emptyEq st (look st a) (look st b)) st
  | .ne => if comparable (look st a) (look st b) then .ok (.bl (!eqv (look st a) (look st b))) st else boolR ((emptyEq st (look st a) (look st b)).map (!·)) st
  | .lt => boolR (less a b) st
  | .gt => boolR (less b a) st
  | .le => boolR ((less b a).map (!·)) st
  | .ge => boolR ((less a b).map (!·)) st
  | .isc => boolR (same a b) st
  | .isn => boolR ((same a b).map (!·)) st
  | .inn => boolR (member st a b) st
  | .nin => boolR ((member st a b).map (!·)) st

/-- the refusals: 0 StillError, 9 ValueError above all -/
def sub (c d : Nat) : Bool := c == d || d == 0 || d == 9
def isTy (st : Store) (d : D) : Ty → Bool
  | .int => (match d with | .int _ => true | .zr => true | .bl _ => true | _ => false)
  | .bool => (match d with | .bl _ => true | _ => false)
  | .str => (match d with | .str _ => true | _ => false)
  | .tuple => (match d with | .tup _ => true | _ => false)
  | .list => (match look st d with | .lst _ => true | _ => false)
  | .dict => (match d with | .loc l => (match st[l]? with | some (.dk _) => true | some (.dt _) => true | _ => false) | .odd => true | _ => false)
  | .cls c => (match d with | .exc e => sub e c | _ => false)

def index (a i : D) (st : Store) : R D := match look st a, i with
  | .lst xs, .int k => (match (ixN xs.length k).bind (xs[·]?) with | some d => .ok d st | none => .fault)
  | .tup xs, .int k => (match (ixN xs.length k).bind (xs[·]?) with | some d => .ok d st | none => .fault)
  | .str z, .int k => if z.length ≤ sizeLine then (match (ixN z.cps.toList.length k).bind (z.cps.toList[·]?) with | some c => .ok (.str ⟨#[c]⟩) st | none => .fault) else .fault
  | .loc l, i => (match dctAt st (.loc l), keyD i with
    | some p, some k => (match dval p.2 k with | some d => .ok d st | none => .fault)
    | _, _ => (match dttAt st (.loc l), pkD i with
      | some p, some k => (match dval p.2 k with | some d => .ok d st | none => .fault)
      | _, _ => .fault))
  | _, _ => .fault
def slice (fz : Bool) (a : D) (lo hi : Option Int) (st : Store) : R D := match look st a with
  | .lst xs => made fz (cut xs lo hi) st
  | .tup xs => .ok (.tup (cut xs lo hi)) st
  | .str z => if z.length ≤ sizeLine then .ok (.str ⟨(cut z.cps.toList lo hi).toArray⟩) st else .fault
  | _ => .fault
def backward (fz : Bool) (a : D) (st : Store) : R D := match look st a with
  | .lst xs => made fz xs.reverse st
  | .tup xs => .ok (.tup xs.reverse) st
  | .str z => if z.length ≤ sizeLine then .ok (.str ⟨z.cps.toList.reverse.toArray⟩) st else .fault
  | _ => .fault

def intsD : List D → Option (List Int)
  | [] => some []
  | .int i :: r => (intsD r).map (i :: ·)
  | _ => none
def boolsD : List D → Option (List Bool)
  | [] => some []
  | .bl i :: r => (boolsD r).map (i :: ·)
  | _ => none
def strsD : List D → Option (List Str)
  | [] => some []
  | .str i :: r => (strsD r).map (i :: ·)
  | _ => none
def b2i (b : Bool) : Int := if b then 1 else 0
def prim (p : Prm) (fz : Bool) (ds : List D) (st : Store) : R D := match p, ds with
  | .len, [d] => (match look st d with
    | .str z => if z.length ≤ sizeLine then .ok (.int z.length) st else .fault
    | .lst xs => .ok (.int xs.length) st
    | .tup xs => .ok (.int xs.length) st
    | d => (match dctAt st d with | some p => .ok (.int p.2.length) st | none => (match dttAt st d with | some p => .ok (.int p.2.length) st | none => .fault)))
  | .int, [.int i] => .ok (.int i) st
  | .int, [.bl k] => .ok (.int (b2i k)) st
  | .int, [.str z] => (match PySem.intText? z with | some i => if z.length ≤ 640 then .ok (.int i) st else .fault | none => .fault)
  | .repr, [.bl b] => .ok (.str (if b then "True" else "False")) st
  | .repr, [d] => if showOk (deep st d) then .ok (.str (PyData.shown (toPy (deep st d)))) st else .fault
  | .bool, [.int i] => .ok (.bl (i != 0)) st
  | .bool, [.bl k] => .ok (.bl k) st
  | .abs, [.int i] => .ok (.int (if i < 0 then -i else i)) st
  | .max, [.int i, .int j] => .ok (.int (if j > i then j else i)) st
  | .min, [.int i, .int j] => .ok (.int (if j < i then j else i)) st
  | .sum, [d] => (match look st d with
    | .lst xs => (match intsD xs with | some ns => .ok (.int ns.sum) st | none => .fault)
    | _ => .fault)
  | .all, [d] => (match look st d with
    | .lst xs => (match boolsD xs with | some bs => .ok (.bl (bs.all id)) st | none => .fault)
    | _ => .fault)
  | .any, [d] => (match look st d with
    | .lst xs => (match boolsD xs with | some bs => .ok (.bl (bs.any id)) st | none => .fault)
    | _ => .fault)
  | .list, [d] => (match items st d with | some xs => made fz xs st | none => .fault)
  | .tuple, [d] => (match items st d with | some xs => .ok (.tup xs) st | none => .fault)
  | .sorted, [d] => (match look st d with
    | .lst xs => if sortOk xs then made fz (sortD xs) st else if headsOk xs then made fz (sortH xs) st else .fault
    | d => (match dctAt st d with
      | some p => if sortOk (p.2.map fun q => kD q.1) then made fz (sortD (p.2.map fun q => kD q.1)) st else .fault
      | none => (match dttAt st d with
        | some p => if sortOk (p.2.map fun q => tkD q.1) && p.2.all (fun q => !q.1.isEmpty) then made fz (sortD (p.2.map fun q => tkD q.1)) st else .fault
        | none => .fault)))
  | .dict, [d] => (match look st d with
    | .lst xs => (match pairT xs with
      | some kvs => if kvs.length ≤ 1000 then .ok (.loc st.length) (st ++ [.dk (dmerge [] kvs)]) else .fault
      | none => (match pairPT xs with
        | some kvs => if 1 ≤ kvs.length ∧ kvs.length ≤ 1000 then .ok (.loc st.length) (st ++ [.dt (dmerge [] kvs)]) else .fault
        | none => .fault))
    | .tup xs => (match pairT xs with
      | some kvs => if kvs.length ≤ 1000 then .ok (.loc st.length) (st ++ [.dk (dmerge [] kvs)]) else .fault
      | none => (match pairPT xs with
        | some kvs => if 1 ≤ kvs.length ∧ kvs.length ≤ 1000 then .ok (.loc st.length) (st ++ [.dt (dmerge [] kvs)]) else .fault
        | none => .fault))
    | d => (match dctAt st d with
      | some p => .ok (.loc st.length) (st ++ [.dk p.2])
      | none => .fault))
  | .str, [.int i] => if i.natAbs.log2 < 1920 then .ok (.str (Str.ofString (toString i))) st else .fault
  | .str, [.str s] => .ok (.str s) st
  | _, _ => .fault

/-- tuples of numbers -/
def tupsD : List D → Option (List (List Int))
  | [] => some []
  | .tup ds :: r => (match intsD ds, tupsD r with | some n, some q => some (n :: q) | _, _ => none)
  | _ => none
def tI (ns : List Int) : D := .tup (ns.map .int)
/-- each once -/
def onceI (zs : List (List Int)) : List (List Int) := zs.foldr (fun z r => if z ∈ r then r else z :: r) []
/-- sorted(set(xs)), texts, tuples of numbers -/
def sortedset (fz : Bool) (d : D) (st : Store) : R D := match look st d with
  | .lst xs => (match strsD xs with
    | some zs => if zs.length ≤ 60 then made fz (sortD ((once zs).map .str)) st else .fault
    | none => (match tupsD xs with
      | some zs => if zs.length ≤ 60 && sortOk ((onceI zs).map tI) then made fz (sortD ((onceI zs).map tI)) st else .fault
      | none => .fault))
  | _ => .fault
/-- len(set(xs)) -/
def lenset (d : D) (st : Store) : R D := match look st d with
  | .lst xs => (match strsD xs with
    | some zs => if zs.length ≤ 60 then .ok (.int (once zs).length) st else .fault
    | none => (match tupsD xs with
      | some zs => if zs.length ≤ 60 then .ok (.int (onceI zs).length) st else .fault
      | none => .fault))
  | _ => .fault
/-- an entry as a pair -/
def itD (q : L2.Key × D) : D := .tup [kD q.1, q.2]
/-- the ints of a row -/
def intsOf : List D → Option (List Int)
  | [] => some []
  | .int i :: r => (intsOf r).map (i :: ·)
  | _ => none
/-- max(.., default=0) -/
def maxI : List Int → Int
  | [] => 0
  | x :: xs => xs.foldl max x
/-- what a dict has -/
def valsAt (st : Store) (d : D) : Option (List D) := match dctAt st d with
  | some p => some (p.2.map (·.2))
  | none => (dttAt st d).map fun p => p.2.map (·.2)
def maxVals (d : D) (st : Store) : R D := match (valsAt st d).bind intsOf with
  | some ns => .ok (.int (maxI ns)) st
  | none => .fault
/-- sorted(d.items()), keys texts -/
def sortedItems (d : D) (st : Store) : R D := match dctAt st d with
  | some p => if headsOk (p.2.map itD) then .ok (.lst (sortH (p.2.map itD))) st else .fault
  | none => .fault
def onL (o : D) (st : Store) (k : Nat → List D → R D) : R D := match o with
  | .loc l => (match st[l]? with
    | some (.lst xs) => k l xs
    | _ => .fault)
  | _ => .fault
def mAppend (o : D) (ds : List D) (st : Store) : R D := onL o st fun l xs => match ds with
  | [d] => if xs.length < sizeLine then .ok .non (st.set l (.lst (xs ++ [d]))) else .fault
  | _ => .fault
def mExtend (o : D) (ds : List D) (st : Store) : R D := onL o st fun l xs => match ds with
  | [e] => (match items st e with
    | some ys => if xs.length + ys.length ≤ sizeLine then .ok .non (st.set l (.lst (xs ++ ys))) else .fault
    | none => .fault)
  | _ => .fault
def mClear (o : D) (ds : List D) (st : Store) : R D := onL o st fun l _ => match ds with
  | [] => .ok .non (st.set l (.lst []))
  | _ => .fault
def mReverse (o : D) (ds : List D) (st : Store) : R D := onL o st fun l xs => match ds with
  | [] => .ok .non (st.set l (.lst xs.reverse))
  | _ => .fault
def mPop (o : D) (ds : List D) (st : Store) : R D := onL o st fun l xs => match ds with
  | [] => (match xs[xs.length - 1]? with
    | some d => .ok d (st.set l (.lst xs.dropLast))
    | none => .fault)
  | [.int k] => if -(2 ^ 63) ≤ k ∧ k < 2 ^ 63 then (match ixN xs.length k with
    | some j => (match xs[j]? with
      | some d => .ok d (st.set l (.lst (xs.eraseIdx j)))
      | none => .fault)
    | none => .fault) else .fault
  | _ => .fault
def mSplit (fz : Bool) (o : D) (ds : List D) (st : Store) : R D := match o with
  | .str a => (match ds with
    | [.str b] => if (b.length == 0) = false ∧ a.length + 2 ≤ sizeLine then made fz ((Txt.split a b).map D.str) st else .fault
    | _ => .fault)
  | _ => .fault
def mJoin (o : D) (ds : List D) (st : Store) : R D := match o with
  | .str a => (match ds with
    | [d] => (match items st d with
      | some xs => (match strsD xs with
        | some ys => if (ys.map (·.length)).sum + ys.length * a.length ≤ 16777216 then .ok (.str (Txt.join a ys)) st else .fault
        | none => .fault)
      | none => .fault)
    | _ => .fault)
  | _ => .fault
def mGet (o : D) (ds : List D) (st : Store) : R D := match dctAt st o with
  | some p => (match ds with
    | [k] => (match keyD k with | some x => .ok ((dval p.2 x).getD .non) st | none => .fault)
    | [k, d] => (match keyD k with | some x => .ok ((dval p.2 x).getD d) st | none => .fault)
    | _ => .fault)
  | none => (match dttAt st o with
    | some p => (match ds with
      | [.non] => .ok .non st
      | [.non, d] => .ok d st
      | [k] => (match pkD k with | some x => .ok ((dval p.2 x).getD .non) st | none => .fault)
      | [k, d] => (match pkD k with | some x => .ok ((dval p.2 x).getD d) st | none => .fault)
      | _ => .fault)
    | none => .fault)
def meth (m : Mth) (fz : Bool) (o : D) (ds : List D) (st : Store) : R D := match m with
  | .append => mAppend o ds st
  | .clear => mClear o ds st
  | .reverse => mReverse o ds st
  | .pop => mPop o ds st
  | .split => mSplit fz o ds st
  | .join => mJoin o ds st
  | .get => mGet o ds st
  | .extend => mExtend o ds st
  | _ => .fault
def isSt (o : D) : Bool := match o with | .str _ => true | _ => false
def isLc (o : D) (st : Store) : Bool := match o with | .loc l => (match st[l]? with | some (.lst _) => true | _ => false) | _ => false
/-- whose method it may be: a list that may change, a text -/
def recv (m : Mth) (o : D) (st : Store) : Bool := match m with
  | .split => isSt o
  | .join => isSt o
  | .get => (dctAt st o).isSome || (dttAt st o).isSome
  | _ => isLc o st
def setitem (o i v : D) (st : Store) : R Unit := match o with
  | .loc l => (match st[l]? with
    | some (.lst xs) => (match i with
      | .int k => (match ixN xs.length k with | some j => .ok () (st.set l (.lst (xs.set j v))) | none => .fault)
      | _ => .fault)
    | some (.dk kvs) => (match keyD i with
      | some k => if kvs.length < sizeLine then .ok () (st.set l (.dk (dput kvs k v))) else .fault
      | none => (match kvs, pkS i with
        | [], some k => .ok () (st.set l (.dt [(k, v)]))
        | _, _ => .fault))
    | some (.dt kvs) => (match pkS i with
      | some k => if kvs.length < sizeLine then .ok () (st.set l (.dt (dput kvs k v))) else .fault
      | none => .fault)
    | none => .fault)
  | _ => .fault

/-! ### the frame's names -/
def wipe (ρ : Env) : List Nat → Env
  | [] => ρ
  | v :: vs => (wipe ρ vs).set v none
def put (ρ : Env) : List Nat → List D → Option Env
  | [], [] => some ρ
  | i :: is, d :: ds => put (ρ.set i (some d)) is ds
  | _, _ => none
/-- a target: one name, or names of a tuple's parts -/
def bindT (tg : List Nat) (one : Bool) (st : Store) (d : D) (ρ : Env) : Option Env :=
  if one then put ρ tg [d] else match look st d with
    | .tup xs => put ρ tg xs
    | .lst xs => put ρ tg xs
    | _ => none

/-! ### loops -/
open Classical in
noncomputable def loopC (ck : Store → Prop) (f : D → Store → R (Option D)) : List D → Store → R (List D)
  | [], st => if ck st then .ok [] st else .fault
  | x :: xs, st => if ck st then (f x st).bind fun o st1 => (loopC ck f xs st1).bind fun ys st2 => .ok (o.toList ++ ys) st2 else .fault

inductive F where
  | nx (ρ : Env) (s : Store) | ct (ρ : Env) (s : Store) | rt (d : D) (s : Store) | exc (c : Nat) (ρ : Env) (s : Store) | fault
def F.thn (r : F) (k : Env → Store → F) : F := match r with
  | .nx ρ s => k ρ s
  | r => r
@[simp] theorem F.thn_nx (ρ : Env) (s : Store) (k : Env → Store → F) : (F.nx ρ s).thn k = k ρ s := rfl
@[simp] theorem F.thn_ct (ρ : Env) (s : Store) (k : Env → Store → F) : (F.ct ρ s).thn k = .ct ρ s := rfl
@[simp] theorem F.thn_rt (d : D) (s : Store) (k : Env → Store → F) : (F.rt d s).thn k = .rt d s := rfl
@[simp] theorem F.thn_exc (c : Nat) (ρ : Env) (s : Store) (k : Env → Store → F) : (F.exc c ρ s).thn k = .exc c ρ s := rfl
@[simp] theorem F.thn_fault (k : Env → Store → F) : F.fault.thn k = .fault := rfl
def R.toF {α : Type} (r : R α) (ρ : Env) (k : α → Store → F) : F := match r with
  | .ok a s => k a s
  | .exc c s => .exc c ρ s
  | .fault => .fault
@[simp] theorem R.toF_ok {α : Type} (a : α) (s : Store) (ρ : Env) (k : α → Store → F) : (R.ok a s).toF ρ k = k a s := rfl
@[simp] theorem R.toF_exc {α : Type} (c : Nat) (s : Store) (ρ : Env) (k : α → Store → F) : (R.exc c s : R α).toF ρ k = .exc c ρ s := rfl
@[simp] theorem R.toF_fault {α : Type} (ρ : Env) (k : α → Store → F) : (R.fault : R α).toF ρ k = .fault := rfl
open Classical in
noncomputable def loopF (ck : Store → Prop) (f : D → Env → Store → F) : List D → Env → Store → F
  | [], ρ, st => if ck st then .nx ρ st else .fault
  | x :: xs, ρ, st => if ck st then (match f x ρ st with
      | .nx ρ1 st1 => loopF ck f xs ρ1 st1
      | .ct ρ1 st1 => loopF ck f xs ρ1 st1
      | r => r) else .fault
def whileN (c : Env → Store → R Bool) (b : Env → Store → F) : Nat → Env → Store → Option F
  | 0, _, _ => none
  | n + 1, ρ, st => match c ρ st with
    | .ok false s1 => some (.nx ρ s1)
    | .ok true s1 => (match b ρ s1 with
      | .nx ρ2 s2 => whileN c b n ρ2 s2
      | .ct ρ2 s2 => whileN c b n ρ2 s2
      | r => some r)
    | .exc x s1 => some (.exc x ρ s1)
    | .fault => some .fault
open Classical in
noncomputable def whileF (c : Env → Store → R Bool) (b : Env → Store → F) (ρ : Env) (st : Store) : F :=
  if h : ∃ n r, whileN c b n ρ st = some r then h.choose_spec.choose else .fault

/-! ### expressions, statements; cf: what a def gives -/
def asBool (r : R D) : R Bool := r.bind fun d st => match truth st d with
  | some k => .ok k st
  | none => .fault
/-- a new cell at the end, put away for good -/
def freezeTop (n : Nat) (r : R D) : R D := match r with
  | .ok (.loc l) st => if l = n then (match st[l]? with
      | some (.lst xs) => if belows n xs then .ok (.lst xs) (st.take n) else .fault
      | _ => .fault) else r
  | r => r
def oneInt : List D → Option (Option Int)
  | [] => some none
  | [.int i] => some (some i)
  | _ => none
def oneIntR (ds : List D) (st : Store) : R (Option Int) := match oneInt ds with
  | some o => .ok o st
  | none => .fault
def inRange (i : Int) : Bool := decide (-(2 ^ 62) ≤ i) && decide (i < 2 ^ 62)
def rangeD (ds : List D) : Option (List D) := match ds with
  | [.int j] => if inRange j then some ((List.range j.toNat).map fun (k : Nat) => .int (0 + (k : Int))) else none
  | [.int i, .int j] => if inRange i && inRange j then some ((List.range (j - i).toNat).map fun (k : Nat) => .int (i + (k : Int))) else none
  | [.int i, .int j, .int c] => if c ≠ 0 ∧ c.natAbs < 1073741824 ∧ Builtin.Range.small i j c = true ∧ 0 ≤ Builtin.Range.rangeSize i j c then some ((List.range (Builtin.Range.rangeSize i j c).toNat).map fun (k : Nat) => .int (i + (k : Int) * c)) else none
  | _ => none
def pairyT : D → Bool
  | .tup ds => pairy ds
  | _ => false
def zipD (xs ys : List D) : List D := List.zipWith (fun x y => .tup [x, y]) xs ys

mutual
noncomputable def ev (cf : Nat → List D → Store → R D) : E → Env → Store → R D
  | .var i, ρ, st => (match ρ[i]? with
    | some (some d) => .ok d st
    | _ => .fault)
  | .cst d, _, st => .ok d st
  | .glo _ d, _, st => .ok d st
  | .tup es, ρ, st => (evs cf es ρ st).bind fun ds st => if ds.length ≤ sizeLine then .ok (.tup ds) st else .fault
  | .lst fz es, ρ, st => (evs cf es ρ st).bind fun ds st => made fz ds st
  | .bin op fz a b, ρ, st => (ev cf a ρ st).bind fun x st => (ev cf b ρ st).bind fun y st => binop op fz x y st
  | .neg a, ρ, st => (ev cf a ρ st).bind fun x st => (match x with
    | .int i => .ok (.int (-i)) st
    | _ => .fault)
  | .cmp op a b, ρ, st => (ev cf a ρ st).bind fun x st => (ev cf b ρ st).bind fun y st => compop op x y st
  | .chn o p a b c, ρ, st => (ev cf a ρ st).bind fun x st => (ev cf b ρ st).bind fun y st => (compop o x y st).bind fun k st => (match k with
    | .bl true => (ev cf c ρ st).bind fun z st => compop p y z st
    | .bl false => .ok (.bl false) st
    | _ => .fault)
  | .and a b, ρ, st => (ev cf a ρ st).bind fun x st => (match truth st x with
    | some true => ev cf b ρ st
    | some false => .ok x st
    | none => .fault)
  | .or a b, ρ, st => (ev cf a ρ st).bind fun x st => (match truth st x with
    | some true => .ok x st
    | some false => ev cf b ρ st
    | none => .fault)
  | .not a, ρ, st => (asBool (ev cf a ρ st)).bind fun k st => .ok (.bl (!k)) st
  | .ite c a b, ρ, st => (asBool (ev cf c ρ st)).bind fun k st => if k then ev cf a ρ st else ev cf b ρ st
  | .call fz f es df, ρ, st => (evs cf es ρ st).bind fun ds st => if fz then freezeTop st.length (cf f (ds ++ df) st) else cf f (ds ++ df) st
  | .prm p fz es, ρ, st => (evs cf es ρ st).bind fun ds st => prim p fz ds st
  | .isa a tys, ρ, st => (ev cf a ρ st).bind fun x st => .ok (.bl (tys.any (isTy st x))) st
  | .idx a b, ρ, st => (ev cf a ρ st).bind fun x st => (ev cf b ρ st).bind fun y st => index x y st
  | .slc fz a lo hi, ρ, st => (ev cf a ρ st).bind fun x st => ((evs cf lo ρ st).bind oneIntR).bind fun l st => ((evs cf hi ρ st).bind oneIntR).bind fun h st => slice fz x l h st
  | .rev fz a, ρ, st => (ev cf a ρ st).bind fun x st => backward fz x st
  | .mth m fz o es, ρ, st => (ev cf o ρ st).bind fun x st => if recv m x st then (evs cf es ρ st).bind fun ds st => meth m fz x ds st else .fault
  | .srs fz a, ρ, st => (ev cf a ρ st).bind fun d st => sortedset fz d st
  | .lns a, ρ, st => (ev cf a ρ st).bind fun d st => lenset d st
  | .sit a, ρ, st => (ev cf a ρ st).bind fun d st => sortedItems d st
  | .mxv a, ρ, st => (ev cf a ρ st).bind fun d st => maxVals d st
  | .odc, _, st => .ok .odd st
  | .dic es, ρ, st => (evs cf es ρ st).bind fun ds st => madeD ds st
  | .dit i j e, ρ, st => (ev cf e ρ st).bind fun d st => .ok (.loc st.length) (st ++ [.dt [([.inl i, .inl j], d)]])
  | .comp fz own tg one it c elt, ρ, st => (evI cf it ρ st).bind fun w st => (loopC (fun s => stands s w.1 w.2) (fun x s => (match bindT tg one s x (wipe ρ own) with
      | some ρ1 => (evc cf c ρ1 s).calm.bind fun k s => if k then (ev cf elt ρ1 s).calm.bind fun d s => .ok (some d) s else .ok none s
      | none => .fault)) w.1 st).bind fun ds st => made fz ds st
  | .iSeq _, _, _ => .fault
  | .iRng _, _, _ => .fault
  | .iEnm _, _, _ => .fault
  | .iZip _ _, _, _ => .fault
noncomputable def evs (cf : Nat → List D → Store → R D) : List E → Env → Store → R (List D)
  | [], _, st => .ok [] st
  | e :: es, ρ, st => (ev cf e ρ st).bind fun d st => (evs cf es ρ st).bind fun ds st => .ok (d :: ds) st
/-- a comprehension's test: none, or one -/
noncomputable def evc (cf : Nat → List D → Store → R D) : List E → Env → Store → R Bool
  | [], _, st => .ok true st
  | e :: es, ρ, st => (asBool (ev cf e ρ st)).bind fun k st => if k then evc cf es ρ st else .ok false st
/-- what is walked -/
noncomputable def evI (cf : Nat → List D → Store → R D) : E → Env → Store → R (List D × Option Src)
  | .iRng es, ρ, st => (evs cf es ρ st).bind fun ds st => (match rangeD ds with
    | some xs => .ok (xs, none) st
    | none => .fault)
  | .iEnm a, ρ, st => (ev cf a ρ st).bind fun d st => (match d with
    | .lst xs => .ok (enumD xs, none) st
    | .tup xs => .ok (enumD xs, none) st
    | .loc l => (match st[l]? with
      | some (.lst xs) => .ok (enumD xs, some (.inr l)) st
      | _ => .fault)
    | _ => .fault)
  | .iZip a b, ρ, st => (ev cf a ρ st).bind fun d st => (ev cf b ρ st).bind fun e st => (match d, e with
    | .tup xs, .tup ys => if (zipD xs ys).any pairyT then .fault else .ok (zipD xs ys, none) st
    | .lst xs, .lst ys => if (zipD xs ys).any pairyT then .fault else .ok (zipD xs ys, none) st
    | _, _ => .fault)
  | .iSeq a, ρ, st => (ev cf a ρ st).bind fun d st => (match walks st d with
    | some w => .ok w st
    | none => .fault)
  | _, _, _ => .fault
end

def F.clear (is : List Nat) : F → F
  | .nx ρ s => .nx (wipe ρ is) s
  | .ct ρ s => .ct (wipe ρ is) s
  | .exc _ _ _ => .fault
  | r => r
/-- an exception of the classes xs that the clause names is caught; nothing else may come -/
def caught (r : F) (xs : List Nat) (cs : Nat) (nm : List Nat) (h : Env → Store → F) : F := match r with
  | .exc c ρ s => if xs.contains c && sub c cs then (match put ρ nm (nm.map fun _ => .exc c) with
      | some ρ1 => (h ρ1 s).clear nm
      | none => .fault) else .fault
  | r => r
mutual
noncomputable def ex (cf : Nat → List D → Store → R D) : S → Env → Store → F
  | .asg i e, ρ, st => (ev cf e ρ st).toF ρ fun d st => .nx (ρ.set i (some d)) st
  | .unp is e, ρ, st => (ev cf e ρ st).toF ρ fun d st => (match bindT is false st d ρ with
    | some ρ1 => .nx ρ1 st
    | none => .fault)
  | .par is es, ρ, st => (evs cf es ρ st).toF ρ fun ds st => (match put ρ is ds with
    | some ρ1 => .nx ρ1 st
    | none => .fault)
  | .seti o i v, ρ, st => (ev cf v ρ st).toF ρ fun d st => (ev cf o ρ st).toF ρ fun x st => (ev cf i ρ st).toF ρ fun k st => (setitem x k d st).toF ρ fun _ st => .nx ρ st
  | .exp e, ρ, st => (ev cf e ρ st).toF ρ fun _ st => .nx ρ st
  | .ret e, ρ, st => (ev cf e ρ st).toF ρ fun d st => .rt d st
  | .ret0, _, st => .rt .non st
  | .iff c a b, ρ, st => (asBool (ev cf c ρ st)).toF ρ fun k st => if k then exs cf a ρ st else exs cf b ρ st
  | .forr tg one it b, ρ, st => (evI cf it ρ st).toF ρ fun w st => loopF (fun s => stands s w.1 w.2) (fun x ρ s => (match bindT tg one s x ρ with
      | some ρ1 => exs cf b ρ1 s
      | none => .fault)) w.1 ρ st
  | .whl c b, ρ, st => whileF (fun ρ st => asBool (ev cf c ρ st)) (fun ρ st => exs cf b ρ st) ρ st
  | .rais c e, ρ, st => (ev cf e ρ st).toF ρ fun d st => (match d with
    | .str _ => .exc c ρ st
    | _ => .fault)
  | .tri b xs cs nm h, ρ, st => caught (exs cf b ρ st) xs cs nm fun ρ st => exs cf h ρ st
  | .cont, ρ, st => .ct ρ st
  | .pass, ρ, st => .nx ρ st
  | .dead, _, _ => .fault
noncomputable def exs (cf : Nat → List D → Store → R D) : List S → Env → Store → F
  | [], ρ, st => .nx ρ st
  | s :: ss, ρ, st => (ex cf s ρ st).thn fun ρ st => exs cf ss ρ st
end

/-! ### defs -/
structure Fn where
  name : Str
  np : Nat
  nv : Nat
  dfl : List D
  body : List S
  deriving Inhabited
/-- what a def leaves of its caller's cells: each as it was, or with flat things in it -/
def cflat : Cell → Bool
  | .lst xs => flats xs
  | .dk kvs => flats (kvs.map (·.2))
  | .dt kvs => flats (kvs.map (·.2))
def cbelow (n : Nat) : Cell → Bool
  | .lst xs => belows n xs
  | .dk kvs => belows n (kvs.map (·.2))
  | .dt kvs => belows n (kvs.map (·.2))
def Keeps (st st' : Store) : Prop := st.length ≤ st'.length ∧ ∀ l, l < st.length → st'[l]? = st[l]? ∨ ∃ c, st'[l]? = some c ∧ cflat c = true
mutual
/-- places from n on are put away for good -/
def frz (st : Store) (n : Nat) : D → Option D
  | .loc l => if l < n then some (.loc l) else match st[l]? with
    | some (.lst xs) => if belows n xs then some (.lst xs) else none
    | _ => none
  | .tup xs => (frzs st n xs).map .tup
  | .lst xs => if belows n xs then some (.lst xs) else none
  | d => some d
def frzs (st : Store) (n : Nat) : List D → Option (List D)
  | [] => some []
  | x :: xs => match frz st n x, frzs st n xs with
    | some y, some ys => some (y :: ys)
    | _, _ => none
end
open Classical in
noncomputable def canon (st : Store) (d : D) (st' : Store) : R D := if Keeps st st' then (match d with
    | .loc l => if l < st.length then .ok d (st'.take st.length) else match st'[l]? with
      | some c => if cbelow st.length c then .ok (.loc st.length) (st'.take st.length ++ [c]) else .ok (.loc l) st'
      | none => .fault
    | d => match frz st' st.length d with
      | some e => .ok e (st'.take st.length)
      | none => .fault) else .fault
open Classical in
noncomputable def leave (st : Store) (r : F) : R D := match r with
  | .rt d st' => canon st d st'
  | .nx _ st' => canon st .non st'
  | .exc c _ st' => if Keeps st st' then .exc c (st'.take st.length) else .fault
  | _ => .fault
def startE (fn : Fn) (ds : List D) : Env := ds.map some ++ List.replicate (fn.nv - ds.length) none
noncomputable def callN (T : List Fn) : Nat → Nat → List D → Store → R D
  | 0, _, _, _ => .fault
  | n + 1, f, ds, st => match T[f]? with
    | some fn => if ds.length = fn.np then leave st (exs (callN T n) fn.body (startE fn ds) st) else .fault
    | none => .fault
end Mi
/-! MiB: plain data and the hand layer's values; readings. -/
namespace Mi
open PySem PySem.Spec L2

/-- the places of the cells; other places that nothing may be read from -/
structure Pl where
  t : List Addr
  x : List Addr
def Pl.push (m : Pl) (a : Addr) : Pl := ⟨m.t ++ [a], m.x⟩
/-- a list that stays: tracked at no cell's place -/
def SqF (H : Hp) (m : Pl) (a : Addr) (xs : List V) : Prop := (a ∉ m.t ∧ a ∉ m.x) ∧ Rd H a (.lst xs)
/-- a tuple that is plain -/
def PlT (H : Hp) (a : Addr) (vs : List V) : Prop := ∃ o, H a = some (.frz o (.tup vs)) ∧ o.dict = none
/-! ### exceptions of the program's own -/
def excN : Nat → Str
  | 0 => "StillError" | 1 => "NoRoom" | 2 => "NoYard" | 3 => "NoWeaving" | 4 => "NoUse" | 5 => "NoGap" | 6 => "NoSlot" | 7 => "NoText" | 8 => "TooMany" | _ => "ValueError"
/-- a class as it stands -/
def clsV (K : PySem.W.Frag) (c : Nat) : Value := if c ≤ 8 then .ref (He.ga K (excN c)) else .type "ValueError"
def pyTys : List String := ["NoneType", "bool", "int", "str", "tuple", "list", "dict"]
def is? (o : Option Bool) (b : Bool) : Bool := decide (o = some b)
/-- what is asked of a class of exceptions, a check -/
def clsB (K : PySem.W.Frag) (c : Nat) : Bool := decide (c ≤ 8) && (He.Fa.glo (excN c)).ok K && (He.Fa.exc (excN c)).ok K &&
  (He.eqO (PySem.W.findIn K (clsV K c) "__getattribute__") (some (some (.builtin "BaseException.__getattribute__"))) && He.eqO (PySem.W.findIn K (clsV K c) "__getattr__") (some none) && PySem.W.hasDictIn K (He.ga K (excN c)) &&
    He.eqO (PySem.W.findIn K (clsV K c) "__class__") (some (some (.builtin "object.__class__"))) && He.eqO (PySem.W.specialIn K (.builtin "object.__class__") "__get__") (some (some (.builtin "getset_descriptor.__get__"))) &&
    is? (PySem.W.takesIn K (.builtin "object.__class__")) true && is? (PySem.W.mroIn K (He.ga K (excN c)) (.type "object")) true) &&
  pyTys.all (fun t => is? (PySem.W.kitOne K (clsV K c) (.type t)) false && is? (PySem.W.kitOne K (.type t) (clsV K c)) false) && is? (PySem.W.kitOne K (clsV K c) (.type "ValueError")) true &&
  (List.range 9).all fun d => !(He.Fa.glo (excN d)).ok K || (is? (PySem.W.exmOne K (clsV K c) (clsV K d)) (sub c d) && is? (PySem.W.kitOne K (clsV K c) (clsV K d)) (sub c d))
structure ClsOk (K : PySem.W.Frag) (c : Nat) : Prop where
  le : c ≤ 8
  glo : (He.Fa.glo (excN c)).ok K = true
  exc : (He.Fa.exc (excN c)).ok K = true
  cl : ExcC K (He.ga K (excN c))
  no : ∀ t ∈ pyTys, PySem.W.kitOne K (clsV K c) (.type t) = some false ∧ PySem.W.kitOne K (.type t) (clsV K c) = some false
  ve : PySem.W.kitOne K (clsV K c) (.type "ValueError") = some true
  two : ∀ d, d ≤ 8 → (He.Fa.glo (excN d)).ok K = true → PySem.W.exmOne K (clsV K c) (clsV K d) = some (sub c d) ∧ PySem.W.kitOne K (clsV K c) (clsV K d) = some (sub c d)
theorem is?_eq {o : Option Bool} {b : Bool} (h : is? o b = true) : o = some b := of_decide_eq_true h
theorem clsV_ref {K : PySem.W.Frag} {c : Nat} (h : c ≤ 8) : clsV K c = .ref (He.ga K (excN c)) := if_pos h
theorem clsB_ok {K : PySem.W.Frag} {c : Nat} (h : clsB K c = true) : ClsOk K c := by
  simp only [clsB, Bool.and_eq_true, decide_eq_true_eq, List.all_eq_true, Bool.or_eq_true, Bool.not_eq_true', List.mem_range] at h
  obtain ⟨⟨⟨⟨⟨⟨h1, h2⟩, h3⟩, ⟨⟨⟨⟨⟨⟨a1, a2⟩, a3⟩, a4⟩, a5⟩, a6⟩, a7⟩⟩, h5⟩, h6⟩, h7⟩ := h
  have e := clsV_ref (K := K) h1
  have x := He.exc_ok h3
  refine ⟨h1, h2, h3, ⟨?_, ?_, x.2.2.1, a3, ?_, He.eqO_ok a5, is?_eq a6, is?_eq a7⟩, fun t ht => ⟨is?_eq (h5 t ht).1, is?_eq (h5 t ht).2⟩, is?_eq h6, fun d hd g => ?_⟩
  · rw [← e]; exact He.eqO_ok a1
  · rw [← e]; exact He.eqO_ok a2
  · rw [← e]; exact He.eqO_ok a4
  · rcases h7 d (by omega) with z | z
    · rw [g] at z; cases z
    · exact ⟨is?_eq z.1, is?_eq z.2⟩
/-- what stands at a caught exception's place -/
def ExA (K : PySem.W.Frag) (c : Nat) (a : Addr) : Heap → Prop := fun h => ∃ oe, h.get? a = some oe ∧ Zc (clsV K c) none oe ∧ ∃ vs, oe.data = .fields vs
mutual
inductive RD (K : PySem.W.Frag) (H : Hp) (m : Pl) : D → V → Prop
  | non : RD K H m .non .non
  | bl (b : Bool) : RD K H m (.bl b) (.bl b)
  | int (i : Int) : RD K H m (.int i) (.int i)
  | zr : RD K H m .zr (.int 0)
  | str (s : Str) : RD K H m (.str s) (.str s)
  | tup {a : Addr} {vs : List V} {ds : List D} : SqT K H a vs → (intPair ds = true → H a = some (.tup vs)) → (pairy ds = true → PlT H a vs) → RDs K H m ds vs → RD K H m (.tup ds) (.ref a)
  | lst {a : Addr} {vs : List V} {ds : List D} : SqF H m a vs → RDs K H m ds vs → RD K H m (.lst ds) (.ref a)
  | loc {l : Nat} {a : Addr} : m.t[l]? = some a → RD K H m (.loc l) (.ref a)
  | odd {a : Addr} : H a = some (.dT []) → RD K H m .odd (.ref a)
  | exc {a : Addr} {c : Nat} : ClsOk K c → H a = some (.ext (ExA K c a)) → RD K H m (.exc c) (.ref a)
inductive RDs (K : PySem.W.Frag) (H : Hp) (m : Pl) : List D → List V → Prop
  | nil : RDs K H m [] []
  | cons {d : D} {v : V} {ds : List D} {vs : List V} : RD K H m d v → RDs K H m ds vs → RDs K H m (d :: ds) (v :: vs)
end
def CellR (K : PySem.W.Frag) (H : Hp) (m : Pl) : Cell → Addr → Prop
  | .lst ds, a => ∃ vs, H a = some (.lst vs) ∧ RDs K H m ds vs
  | .dk kvs, a => ∃ ws : List (L2.Key × V), H a = some (.dK ws) ∧ ws.map (·.1) = kvs.map (·.1) ∧ RDs K H m (kvs.map (·.2)) (ws.map (·.2))
  | .dt kvs, a => ∃ ws : List (List L2.Key × V), ws ≠ [] ∧ H a = some (.dT ws) ∧ ws.map (·.1) = kvs.map (·.1) ∧ RDs K H m (kvs.map (·.2)) (ws.map (·.2))
/-- what a cell may be -/
def cellO : HO → Prop
  | .lst _ => True
  | .dK _ => True
  | .dT ws => ws ≠ []
  | _ => False
theorem CellR.obj {K : PySem.W.Frag} {H : Hp} {m : Pl} {c : Cell} {a : Addr} (h : CellR K H m c a) : ∃ o, H a = some o ∧ cellO o := by
  cases c with
  | lst ds => obtain ⟨vs, e, _⟩ := h; exact ⟨_, e, trivial⟩
  | dk kvs => obtain ⟨ws, e, _⟩ := h; exact ⟨_, e, trivial⟩
  | dt kvs => obtain ⟨ws, n, e, _⟩ := h; exact ⟨_, e, n⟩
theorem CellR.map {K : PySem.W.Frag} {H H' : Hp} {m m' : Pl} {c : Cell} {a : Addr} (h : CellR K H m c a) (ho : ∀ o, H a = some o → cellO o → H' a = some o) (hr : ∀ ds vs, RDs K H m ds vs → RDs K H' m' ds vs) : CellR K H' m' c a := by
  cases c with
  | lst ds => obtain ⟨vs, e, r⟩ := h; exact ⟨vs, ho _ e trivial, hr _ _ r⟩
  | dk kvs => obtain ⟨ws, e, k, r⟩ := h; exact ⟨ws, ho _ e trivial, k, hr _ _ r⟩
  | dt kvs => obtain ⟨ws, n, e, k, r⟩ := h; exact ⟨ws, n, ho _ e n, k, hr _ _ r⟩
structure SimS (K : PySem.W.Frag) (H : Hp) (m : Pl) (st : Store) : Prop where
  nd : m.t.Nodup
  len : m.t.length = st.length
  cell : ∀ (l : Nat) (a : Addr) (c : Cell), m.t[l]? = some a → st[l]? = some c → CellR K H m c a
  pv : ∀ a ∈ m.x, a ∉ m.t ∧ ∃ vs, H a = some (.lst vs)
structure SimE (K : PySem.W.Frag) (H : Hp) (m : Pl) (ρ : Env) (σ : St) : Prop where
  len : ρ.length = σ.length
  get : ∀ (i : Nat) (d : D), ρ[i]? = some (some d) → ∃ v, σ[i]? = some (some v) ∧ RD K H m d v
structure Ext (H H' : Hp) (m m' : Pl) : Prop where
  pre : ∀ (l : Nat) (a : Addr), m.t[l]? = some a → m'.t[l]? = some a
  new : ∀ a, a ∈ m'.t → a ∉ m.t → H a = none
  keep : ∀ a o, H a = some o → a ∉ m.t → H' a = some o
  pv : m'.x = m.x

section
variable {K : PySem.W.Frag} {H H' H1 H2 : Hp} {m m' m1 m2 : Pl} {st st' : Store} {ρ ρ' : Env} {σ σ' : St}
theorem Ext.refl : Ext H H m m := ⟨fun _ _ h => h, fun _ h h' => absurd h h', fun _ _ h _ => h, rfl⟩
theorem Ext.trans (x : Ext H H1 m m1) (y : Ext H1 H2 m1 m2) : Ext H H2 m m2 := by
  refine ⟨fun l a h => y.pre l a (x.pre l a h), fun a h2 h0 => ?_, fun a o h h0 => ?_, y.pv.trans x.pv⟩
  · by_cases h1 : a ∈ m1.t
    · exact x.new a h1 h0
    · cases e : H a with
      | none => rfl
      | some o =>
        have := y.new a h2 h1
        rw [x.keep a o e h0] at this; cases this
  · refine y.keep a o (x.keep a o h h0) fun h1 => ?_
    have := x.new a h1 h0
    rw [h] at this; cases this
theorem SimS.isL (s : SimS K H m st) {a : Addr} (h : a ∈ m.t) : ∃ o, H a = some o ∧ cellO o := by
  obtain ⟨l, hl⟩ := List.getElem?_of_mem h
  have hlt : l < m.t.length := (List.getElem?_eq_some_iff.mp hl).1
  rw [s.len] at hlt
  exact (s.cell l a st[l] hl (List.getElem?_eq_getElem hlt)).obj
theorem SimS.notin' (s : SimS K H m st) {a : Addr} (h : H a = none) : a ∉ m.t ∧ a ∉ m.x := by
  refine ⟨fun z => ?_, fun z => ?_⟩
  · obtain ⟨vs, e, _⟩ := s.isL z
    rw [h] at e; cases e
  · obtain ⟨_, vs, e⟩ := s.pv a z
    rw [h] at e; cases e
/-- cells are lists -/
def Cells (H : Hp) (m : Pl) : Prop := ∀ a ∈ m.t, ∃ o, H a = some o ∧ cellO o
theorem SimS.cells (s : SimS K H m st) : Cells H m := fun _ h => s.isL h
theorem SqT.mono (c : Cells H m) (x : Ext H H' m m') {a : Addr} {vs : List V} (h : SqT K H a vs) : SqT K H' a vs := by
  rcases h with (h | ⟨o, h⟩) | h
  · exact .inl (.inl (x.keep _ _ h fun z => by obtain ⟨_, e, f⟩ := c _ z; rw [h] at e; cases e; exact f))
  · exact .inl (.inr ⟨o, x.keep _ _ h fun z => by obtain ⟨_, e, f⟩ := c _ z; rw [h] at e; cases e; exact f⟩)
  · exact .inr h
theorem SqF.mono (x : Ext H H' m m') {a : Addr} {vs : List V} (h : SqF H m a vs) : SqF H' m' a vs := by
  obtain ⟨⟨n, n2⟩, h⟩ := h
  refine ⟨⟨fun z => ?_, by rw [x.pv]; exact n2⟩, h.imp (fun h => x.keep _ _ h n) fun ⟨o, h⟩ => ⟨o, x.keep _ _ h n⟩⟩
  have e := x.new _ z n
  rcases h with h | ⟨o, h⟩ <;> (rw [h] at e; cases e)
mutual
theorem RD.mono (c : Cells H m) (x : Ext H H' m m') : ∀ {d : D} {v : V}, RD K H m d v → RD K H' m' d v
  | _, _, .non => .non
  | _, _, .bl b => .bl b
  | _, _, .int i => .int i
  | _, _, .zr => .zr
  | _, _, .str s => .str s
  | _, _, .tup h e e3 r => .tup (SqT.mono c x h) (fun k => x.keep _ _ (e k) fun z => by obtain ⟨_, e2, f⟩ := c _ z; rw [e k] at e2; cases e2; exact f) (fun k => let ⟨o, h1, h2⟩ := e3 k; ⟨o, x.keep _ _ h1 fun z => by obtain ⟨_, e2, f⟩ := c _ z; rw [h1] at e2; cases e2; exact f, h2⟩) (RDs.mono c x r)
  | _, _, .lst h r => .lst (SqF.mono x h) (RDs.mono c x r)
  | _, _, .loc h => .loc (x.pre _ _ h)
  | _, _, .odd h => .odd (x.keep _ _ h fun z => by obtain ⟨_, e, f⟩ := c _ z; rw [h] at e; cases e; exact f rfl)
  | _, _, .exc k h => .exc k (x.keep _ _ h fun z => by obtain ⟨_, e, f⟩ := c _ z; rw [h] at e; cases e; exact f)
theorem RDs.mono (c : Cells H m) (x : Ext H H' m m') : ∀ {ds : List D} {vs : List V}, RDs K H m ds vs → RDs K H' m' ds vs
  | _, _, .nil => .nil
  | _, _, .cons h r => .cons (RD.mono c x h) (RDs.mono c x r)
end
theorem SimE.mono (c : Cells H m) (x : Ext H H' m m') (e : SimE K H m ρ σ) : SimE K H' m' ρ σ :=
  ⟨e.len, fun i d h => let ⟨v, h1, h2⟩ := e.get i d h; ⟨v, h1, h2.mono c x⟩⟩
theorem RDs.length : ∀ {ds : List D} {vs : List V}, RDs K H m ds vs → ds.length = vs.length
  | _, _, .nil => rfl
  | _, _, .cons _ r => congrArg (· + 1) (RDs.length r)
theorem RDs.get : ∀ {ds : List D} {vs : List V} {i : Nat} {d : D}, RDs K H m ds vs → ds[i]? = some d → ∃ v, vs[i]? = some v ∧ RD K H m d v
  | _, _, 0, _, .cons r _, e => by simp at e; subst e; exact ⟨_, rfl, r⟩
  | _, _, i + 1, d, .cons _ t, e => by
    obtain ⟨v, h1, h2⟩ := RDs.get (i := i) (d := d) t (by simpa using e)
    exact ⟨v, by simpa using h1, h2⟩
theorem RDs.getV : ∀ {ds : List D} {vs : List V} {i : Nat} {v : V}, RDs K H m ds vs → vs[i]? = some v → ∃ d, ds[i]? = some d ∧ RD K H m d v
  | _, _, 0, _, .cons r _, e => by simp at e; subst e; exact ⟨_, rfl, r⟩
  | _, _, i + 1, d, .cons _ t, e => by
    obtain ⟨v, h1, h2⟩ := RDs.getV (i := i) (v := d) t (by simpa using e)
    exact ⟨v, by simpa using h1, h2⟩
theorem RDs.append : ∀ {ds es : List D} {vs ws : List V}, RDs K H m ds vs → RDs K H m es ws → RDs K H m (ds ++ es) (vs ++ ws)
  | _, _, _, _, .nil, s => s
  | _, _, _, _, .cons r t, s => .cons r (RDs.append t s)
theorem RDs.take : ∀ {ds : List D} {vs : List V} (n : Nat), RDs K H m ds vs → RDs K H m (ds.take n) (vs.take n)
  | _, _, 0, _ => by simp; exact .nil
  | _, _, _ + 1, .nil => .nil
  | _, _, n + 1, .cons r t => .cons r (RDs.take n t)
theorem RDs.drop : ∀ {ds : List D} {vs : List V} (n : Nat), RDs K H m ds vs → RDs K H m (ds.drop n) (vs.drop n)
  | _, _, 0, r => r
  | _, _, _ + 1, .nil => .nil
  | _, _, n + 1, .cons _ t => RDs.drop n t
theorem RDs.set {d : D} {v : V} (r : RD K H m d v) : ∀ {ds : List D} {vs : List V} (i : Nat), RDs K H m ds vs → RDs K H m (ds.set i d) (vs.set i v)
  | _, _, _, .nil => .nil
  | _, _, 0, .cons _ t => .cons r t
  | _, _, i + 1, .cons q t => .cons q (RDs.set r i t)
theorem RDs.reverse : ∀ {ds : List D} {vs : List V}, RDs K H m ds vs → RDs K H m ds.reverse vs.reverse
  | _, _, .nil => .nil
  | _, _, .cons r t => by rw [List.reverse_cons, List.reverse_cons]; exact (RDs.reverse t).append (.cons r .nil)
theorem RDs.nil_iff {ds : List D} {vs : List V} (r : RDs K H m ds vs) : ds = [] ↔ vs = [] := by
  cases r <;> simp
theorem RDs.isEmpty {ds : List D} {vs : List V} (r : RDs K H m ds vs) : ds.isEmpty = vs.isEmpty := by
  cases r <;> rfl
theorem RDs.cut {ds : List D} {vs : List V} (r : RDs K H m ds vs) (lo hi : Option Int) : RDs K H m (cut ds lo hi) (cutV vs lo hi) := by
  unfold Mi.cut cutV sIx
  rw [r.length]
  exact (r.drop _).take _

/-! ### looking at data -/
theorem look_loc {l : Nat} {x : D} (e : look st (.loc l) = x) (h : ∀ k, x ≠ .loc k) : ∃ ys, st[l]? = some (.lst ys) ∧ x = .lst ys := by
  unfold look at e
  split at e
  · next l' =>
    split at e
    · next ys hc => exact ⟨ys, by simp_all, e.symm⟩
    · exact absurd e.symm (h _)
  · next h2 => exact absurd rfl (h2 l)
theorem look_lst {d : D} {v : V} {xs : List D} (s : SimS K H m st) (r : RD K H m d v) (e : look st d = .lst xs) : ∃ a vs, v = .ref a ∧ Rd H a (.lst vs) ∧ RDs K H m xs vs := by
  cases r with
  | lst h q => cases e; exact ⟨_, _, rfl, h.2, q⟩
  | loc h =>
    obtain ⟨ys, hc, e2⟩ := look_loc e (fun k z => by cases z)
    cases e2
    obtain ⟨vs, h1, h2⟩ := s.cell _ _ _ h hc
    exact ⟨_, vs, rfl, .inl h1, h2⟩
  | _ => cases e
theorem look_same {d x : D} (e : look st d = x) (h : ∀ k, x ≠ .loc k) (h2 : ∀ ys, x ≠ .lst ys) : d = x := by
  cases d with
  | loc l =>
    obtain ⟨ys, _, e2⟩ := look_loc e h
    exact absurd e2 (h2 ys)
  | _ => exact e
theorem look_tup {d : D} {xs : List D} (e : look st d = .tup xs) : d = .tup xs := look_same e (fun _ z => by cases z) fun _ z => by cases z
theorem look_int {d : D} {i : Int} (e : look st d = .int i) : d = .int i := look_same e (fun _ z => by cases z) fun _ z => by cases z
theorem look_str {d : D} {i : Str} (e : look st d = .str i) : d = .str i := look_same e (fun _ z => by cases z) fun _ z => by cases z
theorem look_non {d : D} (e : look st d = .non) : d = .non := look_same e (fun _ z => by cases z) fun _ z => by cases z
theorem look_bl {d : D} {b : Bool} (e : look st d = .bl b) : d = .bl b := look_same e (fun _ z => by cases z) fun _ z => by cases z
end

/-! ### readings -/
section
variable (K : PySem.W.Frag) (cls : Nat → Value)
/-- what is wanted behind a result -/
def Post {α β : Type} (rel : Hp → Pl → α → β → Prop) (W : WX) (m : Pl) (H : Hp) (σ : St) (Q : β → Hp → Prop) : R α → Prop
  | .ok d st' => ∀ m' v H', Ext H H' m m' → SimS K H' m' st' → rel H' m' d v → Q v H'
  | .exc c st' => ∀ m' H', Ext H H' m m' → SimS K H' m' st' → W (cls c) none σ H'
  | .fault => False
def tG {α β : Type} (rel : Hp → Pl → α → β → Prop) (W : WX) (f : Env → Store → R α) : St → Hp → (β → Hp → Prop) → Prop := fun σ H Q =>
  ∃ m ρ st, SimE K H m ρ σ ∧ SimS K H m st ∧ Post K cls rel W m H σ Q (f ρ st)
abbrev relD : Hp → Pl → D → V → Prop := fun H m d v => RD K H m d v
abbrev relDs : Hp → Pl → List D → List V → Prop := fun H m d v => RDs K H m d v
abbrev relB : Hp → Pl → Bool → Bool → Prop := fun _ _ a b => a = b
abbrev relU : Hp → Pl → Unit → Unit → Prop := fun _ _ _ _ => True
abbrev tE (W : WX) (f : Env → Store → R D) : TE := tG K cls (relD K) W f
abbrev tT (W : WX) (f : Env → Store → R Bool) : TT := tG K cls relB W f
abbrev tL (W : WX) (f : Env → Store → R (List D)) : TA := tG K cls (relDs K) W f
end
section
variable {K : PySem.W.Frag} {cls : Nat → Value} {H H' H1 H2 : Hp} {m m' m1 m2 : Pl} {st st' st1 : Store} {ρ ρ' : Env} {σ σ' : St} {W : WX}
theorem Post.shift {α β : Type} {rel : Hp → Pl → α → β → Prop} {Q : β → Hp → Prop} {r : R α} (p : Post K cls rel W m H σ Q r) (x : Ext H H1 m m1) : Post K cls rel W m1 H1 σ Q r := by
  cases r with
  | ok d s => exact fun m' v H' y => p m' v H' (x.trans y)
  | exc c s => exact fun m' H' y => p m' H' (x.trans y)
  | fault => exact p
theorem tG.of {α β γ δ : Type} {rel : Hp → Pl → α → β → Prop} {rel2 : Hp → Pl → γ → δ → Prop} {f : Env → Store → R α} {k : α → Store → R γ} {Q : δ → Hp → Prop} {Qa : β → Hp → Prop}
    (hE : SimE K H m ρ σ) (hS : SimS K H m st) (hP : Post K cls rel2 W m H σ Q ((f ρ st).bind k))
    (hk : ∀ d st1 m1 v H1, f ρ st = .ok d st1 → Ext H H1 m m1 → SimE K H1 m1 ρ σ → SimS K H1 m1 st1 → rel H1 m1 d v → Post K cls rel2 W m1 H1 σ Q (k d st1) → Qa v H1) : tG K cls rel W f σ H Qa := by
  refine ⟨m, ρ, st, hE, hS, ?_⟩
  cases e : f ρ st with
  | ok d s =>
    rw [e] at hP
    exact fun m' v H' x s' r => hk d s m' v H' e x (hE.mono hS.cells x) s' r (Post.shift hP x)
  | exc c s => rw [e] at hP; exact hP
  | fault => rw [e] at hP; exact hP
theorem tG.mono {α β : Type} {rel : Hp → Pl → α → β → Prop} {f : Env → Store → R α} {Q Q' : β → Hp → Prop} (h : tG K cls rel W f σ H Q) (hQ : ∀ v H, Q v H → Q' v H) : tG K cls rel W f σ H Q' := by
  obtain ⟨m, ρ, st, hE, hS, hP⟩ := h
  refine ⟨m, ρ, st, hE, hS, ?_⟩
  cases e : f ρ st with
  | ok d s => rw [e] at hP; exact fun m' v H' x s' r => hQ _ _ (hP m' v H' x s' r)
  | exc c s => rw [e] at hP; exact hP
  | fault => rw [e] at hP; exact hP
/-- a result that is there -/
theorem Post.here {α β : Type} {rel : Hp → Pl → α → β → Prop} {Q : β → Hp → Prop} {d : α} {v : β} (p : Post K cls rel W m H σ Q (.ok d st)) (hS : SimS K H m st) (r : rel H m d v) : Q v H := p m v H Ext.refl hS r

/-! ### new objects -/
theorem Ext.laid (hS : SimS K H m st) {p : Addr} {o : HO} (hp : H p = none) : Ext H (upd H p o) m m :=
  ⟨fun _ _ h => h, fun _ h h' => absurd h h', fun a o h _ => by rw [upd_ne (ne_of_none h hp)]; exact h, rfl⟩
theorem pv_upd (hS : SimS K H m st) {p : Addr} {o : HO} (hp : H p = none) : ∀ a ∈ m.x, a ∉ m.t ∧ ∃ vs, upd H p o a = some (.lst vs) := fun a ha => by
  obtain ⟨h1, vs, h2⟩ := hS.pv a ha
  exact ⟨h1, vs, by rw [upd_ne (ne_of_none h2 hp)]; exact h2⟩
theorem SimS.laid (hS : SimS K H m st) {p : Addr} {o : HO} (hp : H p = none) : SimS K (upd H p o) m st := by
  have x : Ext H (upd H p o) m m := Ext.laid hS hp
  refine ⟨hS.nd, hS.len, fun l a c h1 h2 => ?_, pv_upd hS hp⟩
  exact (hS.cell l a c h1 h2).map (fun o e _ => by rw [upd_ne (ne_of_none e hp)]; exact e) fun _ _ r => r.mono hS.cells x
theorem Post.tuple {Q : VK} {ds : List D} {vs : List V} (p : Post K cls (relD K) W m H σ Q (.ok (.tup ds) st)) (hS : SimS K H m st) (r : RDs K H m ds vs) (np : pairy ds = false) : ∀ a, H a = none → Q (.ref a) (upd H a (.tup vs)) := fun a ha =>
  p m _ _ (Ext.laid hS ha) (hS.laid ha) (.tup (SqT.of upd_same) (fun _ => upd_same) (fun k => by rw [np] at k; cases k) (r.mono hS.cells (Ext.laid hS ha)))
/-- a new tuple, known as a tuple or as a plain one -/
def TNew (Q : VK) (H : Hp) (vs : List V) : Prop := (∀ a, H a = none → Q (.ref a) (upd H a (.tup vs))) ∨ ∀ (a : Addr) (o : Obj), H a = none → o.dict = none → Q (.ref a) (upd H a (.frz o (.tup vs)))
theorem pairy_int {ds : List D} (h : pairy ds = true) : intPair ds = false := by
  unfold intPair
  split
  · simp [pairy, pairHd] at h
  · rfl
theorem Post.tupleN {Q : VK} {ds : List D} {vs : List V} (p : Post K cls (relD K) W m H σ Q (.ok (.tup ds) st)) (hS : SimS K H m st) (r : RDs K H m ds vs) : TNew Q H vs := by
  by_cases np : pairy ds = true
  · refine .inr fun a o ha ho => ?_
    exact p m _ _ (Ext.laid hS ha) (hS.laid ha) (.tup (.inl (.inr ⟨o, upd_same⟩)) (fun k => by rw [pairy_int np] at k; cases k) (fun _ => ⟨o, upd_same, ho⟩) (r.mono hS.cells (Ext.laid hS ha)))
  · exact .inl (p.tuple hS r (by simpa using np))
theorem nodup_snoc {α : Type} {l : List α} {a : α} (h : l.Nodup) (n : a ∉ l) : (l ++ [a]).Nodup := by
  rw [List.nodup_append]
  exact ⟨h, by simp, fun x hx y hy => by simp at hy; subst hy; exact fun e => n (e ▸ hx)⟩
theorem Ext.newcell (hS : SimS K H m st) {p : Addr} {o : HO} (hp : H p = none) : Ext H (upd H p o) m (m.push p) := by
  refine ⟨fun l a h => ?_, fun a h h' => ?_, fun a o h _ => by rw [upd_ne (ne_of_none h hp)]; exact h, rfl⟩
  · show (m.t ++ [p])[l]? = some a
    rw [List.getElem?_append_left (List.getElem?_eq_some_iff.mp h).1]; exact h
  · rcases List.mem_append.mp (show a ∈ m.t ++ [p] from h) with h | h
    · exact absurd h h'
    · simp at h; subst h; exact hp
theorem SimS.newcellC (hS : SimS K H m st) {p : Addr} {o : HO} {c0 : Cell} (hp : H p = none) (r : Ext H (upd H p o) m (m.push p) → CellR K (upd H p o) (m.push p) c0 p) : SimS K (upd H p o) (m.push p) (st ++ [c0]) := by
  have x : Ext H (upd H p o) m (m.push p) := Ext.newcell hS hp
  refine ⟨nodup_snoc hS.nd (hS.notin' hp).1, by simp [Pl.push, hS.len], fun l a c h1 h2 => ?_, fun a ha => ?_⟩
  · by_cases hl : l < m.t.length
    · rw [show (m.push p).t = m.t ++ [p] from rfl, List.getElem?_append_left hl] at h1
      rw [List.getElem?_append_left (by rw [← hS.len]; exact hl)] at h2
      exact (hS.cell l a c h1 h2).map (fun o e _ => by rw [upd_ne (ne_of_none e hp)]; exact e) fun _ _ r => r.mono hS.cells x
    · have hl' : l = m.t.length := by
        have := (List.getElem?_eq_some_iff.mp h1).1
        simp [Pl.push] at this; omega
      subst hl'
      rw [show (m.push p).t = m.t ++ [p] from rfl, List.getElem?_append_right (Nat.le_refl _)] at h1
      rw [List.getElem?_append_right (by rw [hS.len]; exact Nat.le_refl _)] at h2
      simp at h1; subst h1
      rw [hS.len] at h2; simp at h2; subst h2
      exact r x
  · obtain ⟨h1, h2⟩ := pv_upd hS (o := o) hp a ha
    refine ⟨fun z => ?_, h2⟩
    rcases List.mem_append.mp (show a ∈ m.t ++ [p] from z) with z | z
    · exact h1 z
    · simp at z; subst z
      exact (hS.notin' hp).2 ha
theorem SimS.newcell (hS : SimS K H m st) {p : Addr} {ds : List D} {vs : List V} (hp : H p = none) (r : RDs K H m ds vs) : SimS K (upd H p (.lst vs)) (m.push p) (st ++ [.lst ds]) :=
  hS.newcellC hp fun x => ⟨vs, upd_same, r.mono hS.cells x⟩
theorem Post.made {fz : Bool} {Q : VK} {ds : List D} {vs : List V} (p : Post K cls (relD K) W m H σ Q (made fz ds st)) (hS : SimS K H m st) (r : RDs K H m ds vs) :
    vs.length ≤ sizeLine ∧ ∀ a, H a = none → Q (.ref a) (upd H a (.lst vs)) := by
  unfold Mi.made at p
  by_cases hz : ds.length ≤ sizeLine
  · rw [if_pos hz] at p
    refine ⟨by rw [← r.length]; exact hz, fun a ha => ?_⟩
    cases fz with
    | true =>
      exact p m _ _ (Ext.laid hS ha) (hS.laid ha) (.lst ⟨hS.notin' ha, .inl upd_same⟩ (r.mono hS.cells (Ext.laid hS ha)))
    | false =>
      refine p (m.push a) _ _ (Ext.newcell hS ha) (hS.newcell ha r) (.loc ?_)
      rw [← hS.len]; simp [Pl.push]
  · rw [if_neg hz] at p; exact False.elim p
/-- a cell is written -/
theorem Ext.write {l : Nat} {a : Addr} {o : HO} (hl : m.t[l]? = some a) : Ext H (upd H a o) m m :=
  ⟨fun _ _ h => h, fun _ h h' => absurd h h', fun b o h n => by
    rw [upd_ne (fun e : b = a => n (by rw [e]; exact List.mem_of_getElem? hl))]; exact h, rfl⟩
theorem SimS.writeC (hS : SimS K H m st) {l : Nat} {a : Addr} {o : HO} {c0 : Cell} (hl : m.t[l]? = some a) (r : Ext H (upd H a o) m m → CellR K (upd H a o) m c0 a) : SimS K (upd H a o) m (st.set l c0) := by
  have x : Ext H (upd H a o) m m := Ext.write hl
  refine ⟨hS.nd, by simp [hS.len], fun k b c h1 h2 => ?_, fun b hb => ?_⟩
  · by_cases hk : k = l
    · subst hk
      rw [hl] at h1; cases h1
      have : k < st.length := by rw [← hS.len]; exact (List.getElem?_eq_some_iff.mp hl).1
      rw [List.getElem?_set_self this] at h2
      cases h2
      exact r x
    · rw [List.getElem?_set_ne (Ne.symm hk)] at h2
      have hb : b ≠ a := fun e => by
        subst e
        have h3 := (List.getElem?_eq_some_iff.mp hl)
        have h4 := (List.getElem?_eq_some_iff.mp h1)
        exact hk ((List.getElem_inj (h₀ := h4.1) (h₁ := h3.1) hS.nd).mp (h4.2.trans h3.2.symm))
      exact (hS.cell k b c h1 h2).map (fun o e _ => by rw [upd_ne hb]; exact e) fun _ _ r => r.mono hS.cells x
  · obtain ⟨h1, us, h2⟩ := hS.pv b hb
    exact ⟨h1, us, by rw [upd_ne (fun e : b = a => h1 (by rw [e]; exact List.mem_of_getElem? hl))]; exact h2⟩
theorem SimS.write (hS : SimS K H m st) {l : Nat} {a : Addr} {ds : List D} {vs : List V} (hl : m.t[l]? = some a) (r : RDs K H m ds vs) : SimS K (upd H a (.lst vs)) m (st.set l (.lst ds)) :=
  hS.writeC hl fun x => ⟨vs, upd_same, r.mono hS.cells x⟩
end

/-! ### a private place -/
section
variable {K : PySem.W.Frag} {H : Hp} {m : Pl} {st : Store} {ρ : Env} {σ : St} {a : Addr}
def Pl.hide (m : Pl) (a : Addr) : Pl := ⟨m.t, a :: m.x⟩
/-- a relation that holds of what is there -/
structure Same2 (H H' : Hp) (m m' : Pl) : Prop where
  t : ∀ (l : Nat) (b : Addr), m.t[l]? = some b → m'.t[l]? = some b
  tup : ∀ b o, H b = some o → ¬ cellO o → H' b = some o
  lst : ∀ b o vs, H b = some o → (b ∉ m.t ∧ b ∉ m.x) → (o = .lst vs ∨ ∃ u, o = .frz u (.lst vs)) → (b ∉ m'.t ∧ b ∉ m'.x) ∧ H' b = some o
theorem Same2.sqt {H' : Hp} {m' : Pl} (x : Same2 H H' m m') {b : Addr} {vs : List V} (h : SqT K H b vs) : SqT K H' b vs := by
  rcases h with (h | ⟨o, h⟩) | h
  · exact .inl (.inl (x.tup _ _ h fun z => z))
  · exact .inl (.inr ⟨o, x.tup _ _ h fun z => z⟩)
  · exact .inr h
theorem Same2.sqf {H' : Hp} {m' : Pl} (x : Same2 H H' m m') {b : Addr} {vs : List V} (h : SqF H m b vs) : SqF H' m' b vs := by
  obtain ⟨n, h | ⟨o, h⟩⟩ := h
  · obtain ⟨h1, h2⟩ := x.lst _ _ _ h n (.inl rfl)
    exact ⟨h1, .inl h2⟩
  · obtain ⟨h1, h2⟩ := x.lst _ _ _ h n (.inr ⟨o, rfl⟩)
    exact ⟨h1, .inr ⟨o, h2⟩⟩
mutual
theorem RD.same {H' : Hp} {m' : Pl} (x : Same2 H H' m m') : ∀ {d : D} {v : V}, RD K H m d v → RD K H' m' d v
  | _, _, .non => .non
  | _, _, .bl b => .bl b
  | _, _, .int i => .int i
  | _, _, .zr => .zr
  | _, _, .str s => .str s
  | _, _, .tup h e e3 r => .tup (x.sqt h) (fun k => x.tup _ _ (e k) fun z => z) (fun k => let ⟨o, h1, h2⟩ := e3 k; ⟨o, x.tup _ _ h1 fun z => z, h2⟩) (RDs.same x r)
  | _, _, .lst h r => .lst (x.sqf h) (RDs.same x r)
  | _, _, .loc h => .loc (x.t _ _ h)
  | _, _, .odd h => .odd (x.tup _ _ h fun z => z rfl)
  | _, _, .exc k h => .exc k (x.tup _ _ h fun z => z)
theorem RDs.same {H' : Hp} {m' : Pl} (x : Same2 H H' m m') : ∀ {ds : List D} {vs : List V}, RDs K H m ds vs → RDs K H' m' ds vs
  | _, _, .nil => .nil
  | _, _, .cons h r => .cons (RD.same x h) (RDs.same x r)
end
theorem SimE.same {H' : Hp} {m' : Pl} (x : Same2 H H' m m') (e : SimE K H m ρ σ) : SimE K H' m' ρ σ :=
  ⟨e.len, fun i d h => let ⟨v, h1, h2⟩ := e.get i d h; ⟨v, h1, h2.same x⟩⟩
theorem SimS.same {H' : Hp} {m' : Pl} (x : Same2 H H' m m') (s : SimS K H m st) (ht : m'.t = m.t) (hc : ∀ b o, b ∈ m.t → H b = some o → H' b = some o) (hp : ∀ b ∈ m'.x, b ∉ m'.t ∧ ∃ vs, H' b = some (.lst vs)) : SimS K H' m' st := by
  refine ⟨by rw [ht]; exact s.nd, by rw [ht]; exact s.len, fun l b c h1 h2 => ?_, hp⟩
  rw [ht] at h1
  exact (s.cell l b c h1 h2).map (fun o e _ => hc b o (List.mem_of_getElem? h1) e) fun _ _ r => r.same x
/-- a new list, as yet private -/
theorem same_hide (hS : SimS K H m st) {o : HO} (ha : H a = none) : Same2 H (upd H a o) m (m.hide a) :=
  ⟨fun _ _ h => h, fun b o h _ => by rw [upd_ne (ne_of_none h ha)]; exact h, fun b o vs h n _ => ⟨⟨n.1, fun z => by
    rcases List.mem_cons.mp (show b ∈ a :: m.x from z) with z | z
    · exact ne_of_none h ha z
    · exact n.2 z⟩, by rw [upd_ne (ne_of_none h ha)]; exact h⟩⟩
theorem SimS.hide (hS : SimS K H m st) {vs : List V} (ha : H a = none) : SimS K (upd H a (.lst vs)) (m.hide a) st :=
  hS.same (same_hide hS ha) rfl (fun b ws _ h => by rw [upd_ne (ne_of_none h ha)]; exact h) fun b hb => by
    rcases List.mem_cons.mp (show b ∈ a :: m.x from hb) with z | z
    · subst z; exact ⟨(hS.notin' ha).1, vs, upd_same⟩
    · exact pv_upd hS ha b z
/-- a private list is written -/
theorem same_priv (hS : SimS K H (m.hide a) st) {vs : List V} : Same2 H (upd H a (.lst vs)) (m.hide a) (m.hide a) := by
  obtain ⟨_, us, ha⟩ := hS.pv a List.mem_cons_self
  exact ⟨fun _ _ h => h, fun b o h n => by rw [upd_ne (fun e : b = a => by subst e; rw [ha] at h; cases h; exact n trivial)]; exact h, fun b o vs' h n _ => ⟨n, by
    rw [upd_ne (fun e : b = a => by subst e; exact n.2 List.mem_cons_self)]; exact h⟩⟩
theorem SimS.priv (hS : SimS K H (m.hide a) st) {vs : List V} : SimS K (upd H a (.lst vs)) (m.hide a) st := by
  obtain ⟨na, us, ha⟩ := hS.pv a List.mem_cons_self
  refine hS.same (same_priv hS) rfl (fun b ws hb h => by rw [upd_ne (fun e : b = a => by subst e; exact na hb)]; exact h) fun b hb => ?_
  by_cases e : b = a
  · subst e; exact ⟨na, vs, upd_same⟩
  · obtain ⟨h1, ws, h2⟩ := hS.pv b hb
    exact ⟨h1, ws, by rw [upd_ne e]; exact h2⟩
theorem Ext.unhide {H' : Hp} {m4 : Pl} (x : Ext H H' (m.hide a) m4) : ∃ m', m4 = m'.hide a ∧ Ext H H' m m' := by
  obtain ⟨t4, x4⟩ := m4
  have e : x4 = a :: m.x := x.pv
  subst e
  exact ⟨⟨t4, m.x⟩, rfl, x.pre, x.new, x.keep, rfl⟩
/-- a private list is shown -/
theorem same_show : Same2 H H (m.hide a) m := ⟨fun _ _ h => h, fun _ _ h _ => h, fun b o vs h n _ => ⟨⟨n.1, fun z => n.2 (List.mem_cons_of_mem _ z)⟩, h⟩⟩
theorem SimS.shown (hS : SimS K H (m.hide a) st) : SimS K H m st := hS.same same_show rfl (fun _ _ _ h => h) fun b hb => hS.pv b (List.mem_cons_of_mem _ hb)
/-- .. as a cell -/
theorem same_cell : Same2 H H (m.hide a) (m.push a) := ⟨fun l b h => by
    show (m.t ++ [a])[l]? = some b
    have h : m.t[l]? = some b := h
    rw [List.getElem?_append_left (List.getElem?_eq_some_iff.mp h).1]; exact h, fun _ _ h _ => h, fun b o vs h n _ => ⟨⟨fun z => by
    rcases List.mem_append.mp (show b ∈ m.t ++ [a] from z) with z | z
    · exact n.1 z
    · simp at z; subst z; exact n.2 List.mem_cons_self, fun z => n.2 (List.mem_cons_of_mem _ z)⟩, h⟩⟩
theorem SimS.celled (hS : SimS K H (m.hide a) st) (nx : a ∉ m.x) {vs : List V} {ds : List D} (ha : H a = some (.lst vs)) (r : RDs K H (m.hide a) ds vs) : SimS K H (m.push a) (st ++ [.lst ds]) := by
  obtain ⟨na, _, _⟩ := hS.pv a List.mem_cons_self
  refine ⟨nodup_snoc hS.nd na, by simp [Pl.push]; exact hS.len, fun l b c h1 h2 => ?_, fun b hb => ?_⟩
  · have hlen : m.t.length = st.length := hS.len
    by_cases hl : l < m.t.length
    · rw [show (m.push a).t = m.t ++ [a] from rfl, List.getElem?_append_left hl] at h1
      rw [List.getElem?_append_left (by rw [← hlen]; exact hl)] at h2
      exact (hS.cell l b c h1 h2).map (fun o e _ => e) fun _ _ r => r.same same_cell
    · have hl' : l = m.t.length := by
        have := (List.getElem?_eq_some_iff.mp h1).1
        simp [Pl.push] at this; omega
      subst hl'
      rw [show (m.push a).t = m.t ++ [a] from rfl, List.getElem?_append_right (Nat.le_refl _)] at h1
      rw [List.getElem?_append_right (by rw [hlen]; exact Nat.le_refl _)] at h2
      simp at h1; subst h1
      rw [hlen] at h2; simp at h2; subst h2
      exact ⟨vs, ha, r.same same_cell⟩
  · obtain ⟨h1, ws, h2⟩ := hS.pv b (List.mem_cons_of_mem _ hb)
    refine ⟨fun z => ?_, ws, h2⟩
    rcases List.mem_append.mp (show b ∈ m.t ++ [a] from z) with z | z
    · exact h1 z
    · simp at z; subst z; exact nx hb
end
end Mi
/-! MiC: operators, comparisons, subscripts, methods of plain data. -/
namespace Mi
open PySem PySem.Spec L2
section
variable {X : Cx} {cls : Nat → Value}

/-- an operator's reading over data -/
def rB (K : PySem.W.Frag) (cls : Nat → Value) (f : D → D → Store → R D) : R2 := fun x y H Q =>
  ∃ W σ m st d e, SimS K H m st ∧ RD K H m d x ∧ RD K H m e y ∧ Post K cls (relD K) W m H σ Q (f d e st)
def rU1 (K : PySem.W.Frag) (cls : Nat → Value) (f : D → Store → R D) : V → Hp → VK → Prop := fun x H Q =>
  ∃ W σ m st d, SimS K H m st ∧ RD K H m d x ∧ Post K cls (relD K) W m H σ Q (f d st)
theorem rd_int {K : PySem.W.Frag} {H : Hp} {m : Pl} {i : Int} {v : V} (r : RD K H m (.int i) v) : v = .int i := by cases r; rfl
theorem rd_bl {K : PySem.W.Frag} {H : Hp} {m : Pl} {i : Bool} {v : V} (r : RD K H m (.bl i) v) : v = .bl i := by cases r; rfl
theorem rd_str {K : PySem.W.Frag} {H : Hp} {m : Pl} {i : Str} {v : V} (r : RD K H m (.str i) v) : v = .str i := by cases r; rfl
theorem rd_non {K : PySem.W.Frag} {H : Hp} {m : Pl} {v : V} (r : RD K H m .non v) : v = .non := by cases r; rfl
theorem rd_tup {K : PySem.W.Frag} {H : Hp} {m : Pl} {xs : List D} {v : V} (r : RD K H m (.tup xs) v) : ∃ a vs, v = .ref a ∧ SqT K H a vs ∧ RDs K H m xs vs := by cases r with | tup h _ _ q => exact ⟨_, _, rfl, h, q⟩
/-- .. and of a pair of ints, the place of its own -/
theorem rd_pair {K : PySem.W.Frag} {H : Hp} {m : Pl} {xs : List D} {v : V} (r : RD K H m (.tup xs) v) (k : intPair xs = true) : ∃ a vs, v = .ref a ∧ H a = some (.tup vs) ∧ RDs K H m xs vs := by cases r with | tup h e _ q => exact ⟨_, _, rfl, e k, q⟩
theorem rd_plain {K : PySem.W.Frag} {H : Hp} {m : Pl} {xs : List D} {v : V} (r : RD K H m (.tup xs) v) (k : pairy xs = true) : ∃ a vs, v = .ref a ∧ PlT H a vs ∧ RDs K H m xs vs := by cases r with | tup h _ e q => exact ⟨_, _, rfl, e k, q⟩
theorem rd_lst {K : PySem.W.Frag} {H : Hp} {m : Pl} {xs : List D} {v : V} (r : RD K H m (.lst xs) v) : ∃ a vs, v = .ref a ∧ SqF H m a vs ∧ RDs K H m xs vs := by cases r with | lst h q => exact ⟨_, _, rfl, h, q⟩
theorem rd_loc {K : PySem.W.Frag} {H : Hp} {m : Pl} {l : Nat} {v : V} (r : RD K H m (.loc l) v) : ∃ a, v = .ref a ∧ m.t[l]? = some a := by cases r with | loc h => exact ⟨_, rfl, h⟩

/-- a list that is read: its object -/
theorem inv_rd {pins : List (Addr × Obj)} {σ : L2.St} {H : Hp} {s : Shared} {a : Addr} {xs : List V} (I : Inv X pins σ H s) (h : Rd H a (.lst xs)) :
    xs.length ≤ sizeLine ∧ ∃ (its : List Value) (n : Nat), Vals xs its ∧ xs.length = its.length ∧ s.heap.get? a = some { cls := .type "list", data := .seq its.toArray n } := by
  obtain ⟨z, its, n, r, e⟩ := h.ok I.hok
  exact ⟨z, its, n, r, r.length, e⟩

/-! ### new tuples, lists by the library's rules -/
theorem op_catLL : OpR X (binaryOp .Add) (fun x y H Q => ∃ l b xs zs, x = .ref l ∧ y = .ref b ∧ Rd H l (.lst xs) ∧ Rd H b (.lst zs) ∧ xs.length + zs.length ≤ sizeLine ∧ ∀ p, H p = none → Q (.ref p) (upd H p (.lst (xs ++ zs)))) := by
  intro pins s σ H x y v u Q I rx ry h
  obtain ⟨l, b, xs, zs, rfl, rfl, hH, hB, hz, q⟩ := h
  cases rx
  cases ry
  obtain ⟨z, its, n, r, hl, e⟩ := inv_rd I hH
  obtain ⟨z2, its2, n2, r2, hl2, e2⟩ := inv_rd I hB
  refine PySem.P.add_list e e2 ?_ (by rw [List.size_toArray, List.size_toArray]; omega)
  have ea : its.toArray ++ its2.toArray = (its ++ its2).toArray := by simp
  rw [ea]
  exact ⟨.ref _, _, I.lnew (t' := s.toks) (r.append r2) (by rw [List.length_append]; omega), rfl, q _ I.fresh⟩
open PyProof.Rows in
theorem op_catT0 : OpR X (binaryOp .Add) (fun x y H Q => ∃ a b ys, x = .ref a ∧ y = .ref b ∧ SqT X.K H a [] ∧ SqT X.K H b ys ∧ Q (.ref b) H) := by
  intro pins s σ H x y v u Q I rx ry h
  obtain ⟨a, b, ys, rfl, rfl, ha, hb, q⟩ := h
  cases rx
  cases ry
  obtain ⟨its, r1, p1, _⟩ := I.tuple ha
  obtain ⟨its2, r2, p2, _⟩ := I.tuple hb
  cases r1
  obtain ⟨⟨cls, dd, data, sl⟩, ho, hc, n, hd⟩ := id p1
  obtain ⟨⟨cls2, dd2, data2, sl2⟩, ho2, hc2, n2, hd2⟩ := id p2
  simp only at hc hd hc2 hd2
  subst hc hd hc2 hd2
  exact concat_meets ⟨_, ho, rfl⟩ ⟨_, ho2, rfl⟩ noFill_tuple_add seq_tuple_add PySem.F.slot_tuple_add PySem.F.entry_tuple_add (PySem.F.args_tuple_add_2 _ _)
    (tuple_addW0 a b _ _ n n2 dd dd2 sl sl2 (by simp)) ⟨ho, ho2, ⟨.ref b, H, I, rfl, q⟩⟩
/-- what a new tuple is, plain -/
theorem frz_tup {P : Program} {w : World} {H : Hp} {h : Heap} {a : Addr} {vs : List V} {its : List Value} (e : h.get? a = some { cls := .type "tuple", data := .seq its.toArray }) (hz : vs.length ≤ sizeLine) (r : Vals vs its) : ObjOk P w H h a (.frz { cls := .type "tuple", data := .seq its.toArray } (.tup vs)) :=
  ⟨e, hz, its, r, _, e, rfl, _, rfl⟩
open PyProof.Rows in
theorem laidN {X : Cx} {pins : List (Addr × Obj)} {σ : L2.St} {H : Hp} {s : Shared} {vs : List V} {its : List Value} {Q : VK} (I : L2.Inv X pins σ H s) (hz : vs.length ≤ sizeLine) (r : Vals vs its) (q : TNew Q H vs) :
    EP X pins σ Q (.ref s.heap.objs.size) { s with heap := s.heap.push { cls := .type "tuple", data := .seq its.toArray } } := by
  have hn := I.hok.fresh (Nat.le_refl s.heap.objs.size)
  rcases q with q | q
  · exact ⟨.ref s.heap.objs.size, _, I.laid (t' := s.toks) (o := .tup vs) (fun b ob q => Heap.get?_push_of_some _ q) (Nat.le_refl _) ⟨hz, its, r, IsTup.new _ _⟩, rfl, q _ hn⟩
  · exact ⟨.ref s.heap.objs.size, _, I.laid (t' := s.toks) (o := .frz { cls := .type "tuple", data := .seq its.toArray } (.tup vs)) (fun b ob q => Heap.get?_push_of_some _ q) (Nat.le_refl _) (frz_tup (Heap.get?_push_size _ rfl) hz r), rfl, q _ _ hn rfl⟩
theorem op_catTN : OpR X (binaryOp .Add) (fun x y H Q => ∃ a b xs ys, x = .ref a ∧ y = .ref b ∧ SqT X.K H a xs ∧ SqT X.K H b ys ∧ xs ≠ [] ∧ xs.length + ys.length ≤ sizeLine ∧ (ys = [] → Q (.ref a) H) ∧ (ys ≠ [] → TNew Q H (xs ++ ys))) := by
  intro pins s σ H x y v u Q I rx ry h
  obtain ⟨a, b, xs, ys, rfl, rfl, ha, hb, hx, hz, q1, q2⟩ := h
  cases rx
  cases ry
  obtain ⟨its, r1, p1, _⟩ := I.tuple ha
  obtain ⟨its2, r2, p2, _⟩ := I.tuple hb
  refine HT.cat_tup p1 p2 (fun z => hx (r1.nil_iff.mp z)) (fun z => ⟨.ref a, H, I, rfl, q1 (r2.nil_iff.mp z)⟩) (fun z => ?_) (by rw [← r1.length, ← r2.length]; exact hz)
  exact laidN I (by rw [List.length_append]; exact hz) (r1.append r2) (q2 fun w => z (r2.nil_iff.mpr w))
/-- a display of a tuple -/
def tTupN (t : TA) : TE := fun σ H Q => t σ H fun xs H1 => xs.length ≤ sizeLine ∧ TNew Q H1 xs
theorem pe_tupN {es : List Expr} {t : TA} {pos : Pos} {x1 : Nat} (h : PA X es t) : PE X (.Tuple es x1 pos) (tTupN t) := by
  refine ⟨fun pins s σ H Q I hq => ?_⟩
  refine wpAny_Tuple_spliced (thn (h.run pos pins s σ H _ I hq) fun us s1 ⟨xs, H1, I1, r, z, q⟩ => ⟨by rw [← r.length]; exact z, ?_⟩)
  exact laidN I1 z r q
open PyProof.Rows in
theorem tuple_mulSame (l : Addr) (items : Array Value) (n : Nat) (dd : Option Addr) (sl : Array (Option Value)) (x : Int) (u : Tok) (c0 : (decide (x < -(2 ^ 63)) || decide (x ≥ 2 ^ 63)) = false) (c1 : (items.isEmpty || x == 1) = true) :
    Meets (Builtin.«tuple.__mul__» ⟨[.ref l, .int x u], []⟩) (fun _ R s => s.heap.get? l = some { cls := .type "tuple", dict := dd, data := .seq items n, slots := sl } ∧
      R (.ok (.ret (Value.ref l))) { s with heap := s.heap, toks := s.toks }) :=
  .of_wp fun prog w A R s h => by
    obtain ⟨hp, g, d, tk, os⟩ := s
    obtain ⟨hl, h⟩ := h
    have f1 := AutoSeq1.idx_int
    wp_walk using wpAny_loadPart' hl
    repeat (first
      | (refine wpAny_ite_false (decide_eq_false (by rw [c0]; exact Bool.false_ne_true)) ?_; wp_walk using wpAny_loadPart' hl)
      | (refine wpAny_ite_true (decide_eq_true c1) ?_; wp_walk using wpAny_loadPart' hl))
    exact ⟨_, rfl, h⟩
open PyProof.Rows in
theorem tuple_mulNone (l : Addr) (items : Array Value) (n : Nat) (dd : Option Addr) (sl : Array (Option Value)) (x : Int) (u : Tok) (c0 : (decide (x < -(2 ^ 63)) || decide (x ≥ 2 ^ 63)) = false) (c1 : (items.isEmpty || x == 1) = false) (c2 : (decide (x ≤ 0) || items.isEmpty) = true) :
    Meets (Builtin.«tuple.__mul__» ⟨[.ref l, .int x u], []⟩) (fun _ R s => s.heap.get? l = some { cls := .type "tuple", dict := dd, data := .seq items n, slots := sl } ∧
      R (.ok (.ret (Value.ref s.heap.objs.size))) { s with heap := s.heap.push { cls := Value.type "tuple", data := Data.seq #[] }, toks := s.toks }) :=
  .of_wp fun prog w A R s h => by
    obtain ⟨hp, g, d, tk, os⟩ := s
    obtain ⟨hl, h⟩ := h
    have f1 := AutoSeq1.idx_int
    wp_walk using wpAny_loadPart' hl
    repeat (first
      | (refine wpAny_ite_false (decide_eq_false (by rw [c0]; exact Bool.false_ne_true)) ?_; wp_walk using wpAny_loadPart' hl)
      | (refine wpAny_ite_false (decide_eq_false (by rw [c1]; exact Bool.false_ne_true)) ?_; wp_walk using wpAny_loadPart' hl)
      | (refine wpAny_ite_true (decide_eq_true c2) ?_; wp_walk using wpAny_loadPart' hl))
    exact ⟨_, rfl, h⟩
open PyProof.Rows in
/-- t * k of a tuple, any small k -/
theorem op_repTall : OpR X (binaryOp .Mult) (fun x y H Q => ∃ l k xs, x = .ref l ∧ y = .int k ∧ SqT X.K H l xs ∧ xs.length ≤ 1000 ∧ k ≤ 1000 ∧ -1000 ≤ k ∧ (xs = [] ∨ k = 1 → Q (.ref l) H) ∧
    (xs ≠ [] → k ≠ 1 → TNew Q H (List.replicate k.toNat xs).flatten)) := by
  intro pins s σ H x y v u Q I rx ry h
  obtain ⟨l, k, xs, rfl, rfl, hT, hz, h1, h2, q1, q2⟩ := h
  by_cases big : xs ≠ [] ∧ 2 ≤ k
  · obtain ⟨b1, b2⟩ := big
    cases rx
    obtain ⟨t, rfl⟩ := ry
    obtain ⟨its, r, ⟨⟨cls, dd, data, sl⟩, ho, hc, n, hd⟩, hs⟩ := I.tuple hT
    simp only at hc hd
    subst hc hd
    have len : its.length = xs.length := r.length.symm
    have full : its.toArray.isEmpty = false := by
      cases r with
      | nil => exact absurd rfl b1
      | cons _ _ => rfl
    have prod : k.toNat * xs.length ≤ 1000 * 1000 := Nat.mul_le_mul (by omega) hz
    have prodI : ((its.toArray.size : Nat) : Int) * k ≤ 1000000 := by
      have e : ((its.toArray.size : Nat) : Int) * k = ((k.toNat * xs.length : Nat) : Int) := by
        rw [List.size_toArray, len, Int.natCast_mul, Int.mul_comm, Int.toNat_of_nonneg (by omega)]
      omega
    have d0 : (decide (k < -(2 ^ 63)) || decide (k ≥ 2 ^ 63)) = false := by
      rw [decide_eq_false (by omega), decide_eq_false (by omega)]; rfl
    have d1 : (its.toArray.isEmpty || k == 1) = false := by
      rw [full, beq_eq_false_iff_ne.mpr (show k ≠ 1 by omega)]; rfl
    have d2 : (decide (k ≤ 0) || its.toArray.isEmpty) = false := by
      rw [full, decide_eq_false (show ¬ k ≤ 0 by omega)]; rfl
    have d4 : Builtin.Tuple.tupleTooMany (((its.toArray.size : Nat) : Int) * k) = false := decide_eq_false (by have := sizeLine_eq; omega)
    have fl : (List.replicate k.toNat its).flatten.length ≤ sizeLine := by
      rw [lm_len_rep_flat, len, sizeLine_eq]; omega
    have fl2 : (List.replicate k.toNat xs).flatten.length ≤ sizeLine := by
      rw [lm_len_rep_flat, sizeLine_eq]; omega
    have mul := tuple_mulW l its.toArray n dd sl k t d0 d1 d2 (by omega) d4 (by rw [size_rep, List.size_toArray]; exact fl)
    refine wpAny_binaryOp_repeat_ref (T := "tuple") (U := "int") (by decide) ⟨_, ho, rfl⟩ (fun s' => typeIs_int s' k t) noFill_tuple_mul PySem.F.fills_int_mul PySem.F.slot_int_rmul repeat_tuple PySem.F.slot_int_index.lookup
      (call_meets PySem.F.slot_int_rmul (typeIs_int s k t) PySem.F.entry_int_rmul (PySem.F.args_int_rmul_2 _ _) (int_rmul_tuple k t l its.toArray n dd sl)
        ⟨ho, rfl, ⟨_, ho, rfl⟩, call_meets PySem.F.slot_tuple_mul ⟨_, ho, rfl⟩ PySem.F.entry_tuple_mul (PySem.F.args_tuple_mul_2 _ _) mul ⟨ho, ?_⟩⟩)
    rw [size_rep]
    exact laidN I fl2 (r.rep k.toNat) (q2 b1 (by omega))
  · cases rx
    obtain ⟨t, rfl⟩ := ry
    obtain ⟨its, r, ⟨⟨cls, dd, data, sl⟩, ho, hc, n, hd⟩, hs⟩ := I.tuple hT
    simp only at hc hd
    subst hc hd
    have c0 : (decide (k < -(2 ^ 63)) || decide (k ≥ 2 ^ 63)) = false := by
      rw [decide_eq_false (by omega), decide_eq_false (by omega)] <;> rfl
    have ie : its.toArray.isEmpty = xs.isEmpty := by cases r <;> simp
    by_cases c1 : (its.toArray.isEmpty || k == 1) = true
    · have c1' : xs = [] ∨ k = 1 := by
        rw [ie] at c1
        rcases Bool.or_eq_true_iff.mp c1 with z | z
        · exact .inl (List.isEmpty_iff.mp z)
        · exact .inr (by simpa using z)
      exact wpAny_binaryOp_repeat_ref (T := "tuple") (U := "int") (by decide) ⟨_, ho, rfl⟩ (fun s' => typeIs_int s' k t) noFill_tuple_mul PySem.F.fills_int_mul PySem.F.slot_int_rmul repeat_tuple PySem.F.slot_int_index.lookup
        (call_meets PySem.F.slot_int_rmul (typeIs_int s k t) PySem.F.entry_int_rmul (PySem.F.args_int_rmul_2 _ _) (int_rmul_tuple k t l its.toArray n dd sl)
          ⟨ho, rfl, ⟨_, ho, rfl⟩, call_meets PySem.F.slot_tuple_mul ⟨_, ho, rfl⟩ PySem.F.entry_tuple_mul (PySem.F.args_tuple_mul_2 _ _) (tuple_mulSame l its.toArray n dd sl k t c0 c1) ⟨ho, ⟨.ref l, H, I, rfl, q1 c1'⟩⟩⟩)
    · have c1' : (its.toArray.isEmpty || k == 1) = false := by simpa using c1
      have hne : xs ≠ [] := by
        rintro rfl
        rw [ie] at c1
        exact c1 rfl
      have hk : ¬ k = 1 := by
        rintro rfl
        exact c1 (by simp)
      have hk2 : ¬ 2 ≤ k := fun z => big ⟨hne, z⟩
      have c2 : (decide (k ≤ 0) || its.toArray.isEmpty) = true := by
        rw [decide_eq_true (by omega)]; rfl
      refine wpAny_binaryOp_repeat_ref (T := "tuple") (U := "int") (by decide) ⟨_, ho, rfl⟩ (fun s' => typeIs_int s' k t) noFill_tuple_mul PySem.F.fills_int_mul PySem.F.slot_int_rmul repeat_tuple PySem.F.slot_int_index.lookup
        (call_meets PySem.F.slot_int_rmul (typeIs_int s k t) PySem.F.entry_int_rmul (PySem.F.args_int_rmul_2 _ _) (int_rmul_tuple k t l its.toArray n dd sl)
          ⟨ho, rfl, ⟨_, ho, rfl⟩, call_meets PySem.F.slot_tuple_mul ⟨_, ho, rfl⟩ PySem.F.entry_tuple_mul (PySem.F.args_tuple_mul_2 _ _) (tuple_mulNone l its.toArray n dd sl k t c0 c1' c2) ⟨ho, ?_⟩⟩)
      have hk0 : k.toNat = 0 := by omega
      have q3 := q2 hne hk
      rw [hk0] at q3
      exact laidN I (by show 0 ≤ sizeLine; omega) .nil q3
theorem op_repLL : OpR X (binaryOp .Mult) (fun x y H Q => ∃ l k xs, x = .ref l ∧ y = .int k ∧ Rd H l (.lst xs) ∧ -(2 ^ 63) ≤ k ∧ k < 2 ^ 63 ∧ xs.length * k.toNat ≤ sizeLine ∧
    ∀ p, H p = none → Q (.ref p) (upd H p (.lst (List.replicate k.toNat xs).flatten))) := by
  intro pins s σ H x y v u Q I rx ry h
  obtain ⟨l, k, xs, rfl, rfl, hH, h1, h2, hz, q⟩ := h
  cases rx
  obtain ⟨t, rfl⟩ := ry
  obtain ⟨z, its, n, r, hl, e⟩ := inv_rd I hH
  have hlen : its.toArray.size * k.toNat ≤ sizeLine := by rw [List.size_toArray, ← hl]; exact hz
  have hcap : ¬ its.toArray.size * k.toNat > (2 ^ 63 - 1) / 8 := by
    have : (sizeLine : Nat) ≤ (2 ^ 63 - 1) / 8 := by decide
    omega
  have hfit : ¬ (!Builtin.List.listFitsIndex k) = true := by
    rw [fitsIndex_both h1 h2]
    exact Bool.false_ne_true
  have hlong : ¬ Builtin.List.listTooLong (its.toArray.size * k.toNat) = true := by
    rw [notLongL hlen]
    exact Bool.false_ne_true
  have hnew : List.foldl (fun x1 x2 => x1 ++ x2) #[] (List.replicate (if its.toArray.isEmpty = true then 0 else k.toNat) its.toArray) = (List.replicate k.toNat its).flatten.toArray := by
    have f0 : ∀ m : Nat, List.foldl (fun x1 x2 => x1 ++ x2) #[] (List.replicate m its.toArray) = (List.replicate m its).flatten.toArray := fun m => by
      have := foldl_rep its m []
      rw [List.nil_append] at this
      exact this
    rw [f0]
    cases its with
    | nil => simp
    | cons a r' => rw [if_neg (by simp)]
  refine wpAny_binaryOp_repeat_ref (T := "list") (U := "int") (by decide) ⟨_, e, rfl⟩ (fun s' => typeIs_int s' k t) noFill_list_mul F.fills_int_mul F.slot_int_rmul repeat_list F.slot_int_index.lookup
    (call_meets F.slot_int_rmul (typeIs_int s k t) F.entry_int_rmul (F.args_int_rmul_2 _ _) (int___rmul___int_list k t l its.toArray n)
      ⟨e, rfl, ⟨_, e, rfl⟩, call_meets F.slot_list_mul ⟨_, e, rfl⟩ F.entry_list_mul (F.args_list_mul_2 _ _) (AutoListH.list___mul___list_int_3 l its.toArray n k t hfit hcap hlong) ⟨e, ?_⟩⟩)
  rw [hnew]
  exact ⟨.ref _, _, I.lnew (t' := s.toks) (r.rep k.toNat) (by rw [PyProof.Rows.lm_len_rep_flat, Nat.mul_comm]; exact hz), rfl, q _ I.fresh⟩

theorem RDs.rep {K : PySem.W.Frag} {H : Hp} {m : Pl} {ds : List D} {vs : List V} (r : RDs K H m ds vs) : ∀ k : Nat, RDs K H m (List.replicate k ds).flatten (List.replicate k vs).flatten
  | 0 => .nil
  | k + 1 => by rw [List.replicate_succ, List.replicate_succ, List.flatten_cons, List.flatten_cons]; exact r.append (RDs.rep r k)
theorem len_rep {α : Type} (xs : List α) (k : Nat) : (List.replicate k xs).flatten.length = k * xs.length := by
  induction k with
  | zero => simp
  | succ k ih => rw [List.replicate_succ, List.flatten_cons, List.length_append, ih, Nat.succ_mul]; omega

/-! ### binary operators -/
theorem not_long {n : Nat} (h : n ≤ 1000000) : PySem.Builtin.Str.tooLong n = false := by
  have := sizeLine_eq
  unfold PySem.Builtin.Str.tooLong
  exact decide_eq_false (by omega)
theorem srep_one {x : Str} {k : Int} (h : k = 1 ∨ x.length = 0) (h0 : 0 ≤ k) : srep x k = x := by
  obtain ⟨c⟩ := x
  rcases h with rfl | h
  · simp [srep]
  · have : c = #[] := by simpa [Str.length] using h
    subst this
    simp [srep]
theorem fold_acc : ∀ (n : Nat) (c acc : Array Nat), (List.replicate n c).foldl (· ++ ·) acc = acc ++ ((List.replicate n c.toList).flatten).toArray
  | 0, c, acc => by simp
  | n + 1, c, acc => by
    rw [List.replicate_succ, List.foldl_cons, fold_acc n c, List.replicate_succ, List.flatten_cons]
    apply Array.toList_inj.mp
    simp [Array.append_assoc]
theorem fold_flat {x : Str} {k : Int} : (⟨(List.replicate k.toNat x.cps).foldl (· ++ ·) #[]⟩ : Str) = srep x k := by
  rw [fold_acc]
  simp [srep]
theorem opB {op : BOp} {fz : Bool} {o : Operator} (ho : (match op with | .add => Operator.Add | .sub => .Sub | .mul => .Mult | .fdiv => .FloorDiv | .mod => .Mod | .pow => .Pow | .band => .BitAnd) = o) : OpR X (binaryOp o) (rB X.K cls (binop op fz)) := by
  subst ho
  intro pins s σ H x y v u Q I rx ry h
  obtain ⟨W, σ', m, st, d, e, hS, rd, re, hP⟩ := h
  cases op with
  | add =>
    simp only [binop] at hP
    split at hP
    · next i j hi hj =>
      cases look_int hi; cases look_int hj
      cases rd_int rd; cases rd_int re
      exact op_add pins s σ H _ _ v u Q I rx ry ⟨i, j, rfl, rfl, hP.here hS (.int _)⟩
    · next i j hi hj =>
      cases look_str hi; cases look_str hj
      cases rd_str rd; cases rd_str re
      split at hP
      · next hz => exact op_add_str pins s σ H _ _ v u Q I rx ry ⟨i, j, rfl, rfl, hz, hP.here hS (.str _)⟩
      · exact False.elim hP
    · next i j hi hj =>
      cases look_tup hi; cases look_tup hj
      obtain ⟨a, vs, rfl, ha, ra⟩ := rd_tup rd
      obtain ⟨b, ws, rfl, hb, rb⟩ := rd_tup re
      split at hP
      · next hz =>
        rw [ra.length, rb.length] at hz
        by_cases hv : vs = []
        · have hi : i = [] := ra.nil_iff.mpr hv
          subst hv hi
          exact op_catT0 pins s σ H _ _ v u Q I rx ry ⟨a, b, ws, rfl, rfl, ha, hb, hP.here hS (by assumption)⟩
        · refine op_catTN pins s σ H _ _ v u Q I rx ry ⟨a, b, vs, ws, rfl, rfl, ha, hb, hv, hz, fun hw => ?_, fun _ => hP.tupleN hS (ra.append rb)⟩
          have hj : j = [] := rb.nil_iff.mpr hw
          subst hj
          rw [List.append_nil] at hP
          exact hP.here hS (by assumption)
      · exact False.elim hP
    · next i j hi hj =>
      obtain ⟨a, vs, rfl, ha, ra⟩ := look_lst hS rd hi
      obtain ⟨b, ws, rfl, hb, rb⟩ := look_lst hS re hj
      obtain ⟨hz, q⟩ := hP.made hS (ra.append rb)
      exact op_catLL pins s σ H _ _ v u Q I rx ry ⟨a, b, vs, ws, rfl, rfl, ha, hb, by rw [List.length_append] at hz; exact hz, q⟩
    · exact False.elim hP
  | sub =>
    simp only [binop] at hP
    split at hP
    · next i j =>
      cases rd_int rd; cases rd_int re
      exact op_sub pins s σ H _ _ v u Q I rx ry ⟨i, j, rfl, rfl, hP.here hS (.int _)⟩
    · exact False.elim hP
  | mul =>
    simp only [binop] at hP
    split at hP
    · next i j hi =>
      cases look_int hi
      cases rd_int rd; cases rd_int re
      split at hP
      · next hc =>
        refine op_mul pins s σ H _ _ v u Q I rx ry ⟨i, j, rfl, rfl, ?_, hP.here hS (.int _)⟩
        simp only [small64, Bool.or_eq_true, Bool.and_eq_true, decide_eq_true_eq] at hc
        exact hc
      · exact False.elim hP
    · next i k hi =>
      cases look_tup hi
      obtain ⟨a, vs, rfl, ha, ra⟩ := rd_tup rd
      cases rd_int re
      split at hP
      · next hc =>
        refine op_repTall pins s σ H _ _ v u Q I rx ry ⟨a, k, vs, rfl, rfl, ha, by rw [← ra.length]; exact hc.1, hc.2.1, hc.2.2, fun hv => ?_, fun _ _ => hP.tupleN hS (ra.rep _)⟩
        have e : Mi.rep i k = i := by
          unfold Mi.rep
          rcases hv with hv | rfl
          · cases ra.nil_iff.mpr hv
            simp
          · simp
        rw [e] at hP
        exact hP.here hS (by assumption)
      · exact False.elim hP
    · next i k hi =>
      obtain ⟨a, vs, rfl, ha, ra⟩ := look_lst hS rd hi
      cases rd_int re
      split at hP
      · next hc =>
        obtain ⟨hz, q⟩ := hP.made hS (ra.rep _)
        refine op_repLL pins s σ H _ _ v u Q I rx ry ⟨a, k, vs, rfl, rfl, ha, by omega, by omega, ?_, q⟩
        rw [len_rep] at hz
        rw [Nat.mul_comm]; exact hz
      · exact False.elim hP
    · next x k hi =>
      cases look_str hi
      cases rd_str rd; cases rd_int re
      split at hP
      · next hc =>
        obtain ⟨t, rfl⟩ := rx
        obtain ⟨t2, rfl⟩ := ry
        have fin := fun s' I' (t' : Tok) => (⟨.str (srep x k), H, I', ⟨t', rfl⟩, hP.here hS (.str _)⟩ : EP X pins σ Q (.str (srep x k) t') s')
        refine P.mul_str (by rw [decide_eq_false (by omega), decide_eq_false (by omega)]; rfl) (fun h1 h2 => ?_) (fun h1 h2 => ?_) ?_
        · have : (1000 : Int) ≤ (2 ^ 63 - 1) / k := by
            have h3 : (2 ^ 63 - 1 : Int) = 9223372036854775807 := by decide
            rw [h3, Int.le_ediv_iff_mul_le (by omega)]
            omega
          omega
        · have h4 : x.length * k.toNat ≤ 1000 * 1000 := Nat.mul_le_mul hc.1 (by omega)
          exact not_long (by omega)
        · by_cases h1 : k < 1
          · rw [if_pos h1]
            have e : srep x k = Str.empty := by
              have : k.toNat = 0 := by omega
              unfold srep
              rw [this]
              rfl
            rw [e] at fin
            exact ⟨Nat.zero_le _, fin _ (I.tok _) _⟩
          · rw [if_neg h1]
            split
            · next h2 =>
              have e : srep x k = x := srep_one (by simpa using h2) (by omega)
              rw [e] at fin
              exact fin _ I _
            · rw [fold_flat]
              refine ⟨?_, fin _ (I.tok _) _⟩
              have h4 : x.length * k.toNat ≤ 1000 * 1000 := Nat.mul_le_mul hc.1 (by omega)
              have h5 : (srep x k).length = x.length * k.toNat := by simp [srep, Str.length, Nat.mul_comm]
              have := sizeLine_eq
              omega
      · exact False.elim hP
    · exact False.elim hP
  | fdiv =>
    simp only [binop] at hP
    split at hP
    · next i j =>
      cases rd_int rd; cases rd_int re
      split at hP
      · next hc => exact op_fdivN pins s σ H _ _ v u Q I rx ry ⟨i, j, rfl, rfl, hc, hP.here hS (.int _)⟩
      · exact False.elim hP
    · exact False.elim hP
  | mod =>
    simp only [binop] at hP
    split at hP
    · next i j =>
      cases rd_int rd; cases rd_int re
      split at hP
      · next hc => exact op_modN pins s σ H _ _ v u Q I rx ry ⟨i, j, rfl, rfl, hc, hP.here hS (.int _)⟩
      · exact False.elim hP
    · exact False.elim hP
  | pow =>
    simp only [binop] at hP
    split at hP
    · next i j =>
      cases rd_int rd; cases rd_int re
      split at hP
      · next hc => exact op_pow pins s σ H _ _ v u Q I rx ry ⟨i, j, rfl, rfl, hc, hP.here hS (.int _)⟩
      · exact False.elim hP
    · exact False.elim hP
  | band =>
    simp only [binop] at hP
    split at hP
    · next i j =>
      cases rd_int rd; cases rd_int re
      exact op_and pins s σ H _ _ v u Q I rx ry ⟨i, j, rfl, rfl, hP.here hS (.int _)⟩
    · exact False.elim hP
end
end Mi
/-! MiO: dicts of numbers and texts: what stands in them. -/
namespace Mi
open PySem PySem.Spec L2
section
variable {K : PySem.W.Frag} {H H' : Hp} {m m' : Pl} {st : Store}
def mergeP {κ : Type} [DecidableEq κ] (kvs more : List (κ × V)) : List (κ × V) := more.foldl (fun acc kv => putK acc kv.1 kv.2) kvs
/-- a dict's pairs and what is said of them -/
def KVR {κ : Type} (K : PySem.W.Frag) (H : Hp) (m : Pl) (kvs : List (κ × D)) (ws : List (κ × V)) : Prop := ws.map (·.1) = kvs.map (·.1) ∧ RDs K H m (kvs.map (·.2)) (ws.map (·.2))
section
variable {κ : Type} [DecidableEq κ]
theorem KVR.nil : KVR K H m ([] : List (κ × D)) [] := ⟨rfl, .nil⟩
theorem KVR.cons_inv {p : κ × D} {kvs : List (κ × D)} {ws : List (κ × V)} (h : KVR K H m (p :: kvs) ws) : ∃ v us, ws = (p.1, v) :: us ∧ RD K H m p.2 v ∧ KVR K H m kvs us := by
  obtain ⟨h1, h2⟩ := h
  cases ws with
  | nil => cases h1
  | cons q us =>
    simp only [List.map_cons, List.cons.injEq] at h1
    simp only [List.map_cons] at h2
    cases h2 with
    | cons r t =>
      obtain ⟨q1, q2⟩ := q
      obtain ⟨e1, e2⟩ := h1
      simp only at e1 r
      subst e1
      exact ⟨q2, us, rfl, r, e2, t⟩
theorem KVR.nil_inv {ws : List (κ × V)} (h : KVR K H m [] ws) : ws = [] := by
  obtain ⟨h1, _⟩ := h
  simpa using h1
theorem KVR.cons {k : κ} {d : D} {v : V} {kvs : List (κ × D)} {ws : List (κ × V)} (r : RD K H m d v) (h : KVR K H m kvs ws) : KVR K H m ((k, d) :: kvs) ((k, v) :: ws) := by
  refine ⟨?_, .cons r h.2⟩
  have := h.1
  simp only [List.map_cons, this]
theorem KVR.length {kvs : List (κ × D)} {ws : List (κ × V)} (h : KVR K H m kvs ws) : ws.length = kvs.length := by
  have := congrArg List.length h.1
  simpa using this
theorem KVR.any (k : κ) : ∀ {kvs : List (κ × D)} {ws : List (κ × V)}, KVR K H m kvs ws → (ws.any fun kv => decide (kv.1 = k)) = (kvs.any fun kv => decide (kv.1 = k))
  | [], ws, h => by rw [h.nil_inv]; rfl
  | p :: kvs, ws, h => by
    obtain ⟨v, us, rfl, r, t⟩ := h.cons_inv
    simp only [List.any_cons, KVR.any k t]
theorem KVR.val (k : κ) : ∀ {kvs : List (κ × D)} {ws : List (κ × V)}, KVR K H m kvs ws → (dval kvs k = none ∧ valV ws k = none) ∨ ∃ d v, dval kvs k = some d ∧ valV ws k = some v ∧ RD K H m d v
  | [], ws, h => by rw [h.nil_inv]; exact .inl ⟨rfl, rfl⟩
  | p :: kvs, ws, h => by
    obtain ⟨v, us, rfl, r, t⟩ := h.cons_inv
    by_cases e : p.1 = k
    · exact .inr ⟨p.2, v, by simp [dval, e], by simp [valV, e], r⟩
    · have h1 : dval (p :: kvs) k = dval kvs k := by simp [dval, e]
      have h2 : valV ((p.1, v) :: us) k = valV us k := by simp [valV, e]
      rw [h1, h2]
      exact KVR.val k t
theorem KVR.append {kvs kv2 : List (κ × D)} {ws ws2 : List (κ × V)} (h : KVR K H m kvs ws) (h2 : KVR K H m kv2 ws2) : KVR K H m (kvs ++ kv2) (ws ++ ws2) := by
  refine ⟨by rw [List.map_append, List.map_append, h.1, h2.1], ?_⟩
  rw [List.map_append, List.map_append]
  exact h.2.append h2.2
theorem KVR.upd {k : κ} {d : D} {v : V} (r : RD K H m d v) : ∀ {kvs : List (κ × D)} {ws : List (κ × V)}, KVR K H m kvs ws → KVR K H m (kvs.map fun kv => if kv.1 = k then (kv.1, d) else kv) (ws.map fun kv => if kv.1 = k then (kv.1, v) else kv)
  | [], ws, h => by rw [h.nil_inv]; exact .nil
  | p :: kvs, ws, h => by
    obtain ⟨u, us, rfl, q, t⟩ := h.cons_inv
    rw [List.map_cons, List.map_cons]
    by_cases e : p.1 = k
    · simp only [e, if_true]
      exact .cons r (KVR.upd r t)
    · simp only [e, if_false]
      exact .cons q (KVR.upd r t)
theorem KVR.put {k : κ} {d : D} {v : V} {kvs : List (κ × D)} {ws : List (κ × V)} (r : RD K H m d v) (h : KVR K H m kvs ws) : KVR K H m (dput kvs k d) (putK ws k v) := by
  unfold dput putK
  rw [h.any k]
  split
  · exact h.upd r
  · exact h.append (.cons r .nil)
theorem KVR.mergeP : ∀ {more kvs : List (κ × D)} {ms ws : List (κ × V)}, KVR K H m kvs ws → KVR K H m more ms → KVR K H m (dmerge kvs more) (mergeP ws ms)
  | [], kvs, ms, ws, h, q => by rw [q.nil_inv]; exact h
  | p :: more, kvs, ms, ws, h, q => by
    obtain ⟨u, us, rfl, r, t⟩ := q.cons_inv
    have := KVR.mergeP (h.put (k := p.1) r) t
    exact this
end
theorem KVR.merge {more kvs : List (Key × D)} {ms ws : List (Key × V)} (h : KVR K H m kvs ws) (q : KVR K H m more ms) : KVR K H m (dmerge kvs more) (mergeK ws ms) := h.mergeP q
theorem dct_ok {d : D} {v : V} {p : Nat × List (Key × D)} (hS : SimS K H m st) (r : RD K H m d v) (h : dctAt st d = some p) : ∃ a ws, d = .loc p.1 ∧ v = .ref a ∧ m.t[p.1]? = some a ∧ H a = some (.dK ws) ∧ KVR K H m p.2 ws ∧ st[p.1]? = some (.dk p.2) := by
  unfold dctAt at h
  cases r with
  | @loc l a ha =>
    simp only at h
    split at h
    · next kvs hc =>
      cases h
      obtain ⟨ws, e, k, q⟩ := hS.cell l a _ ha hc
      exact ⟨a, ws, rfl, rfl, ha, e, ⟨k, q⟩, hc⟩
    · cases h
  | _ => cases h
theorem look_dct {d : D} {p : Nat × List (Key × D)} (h : dctAt st (look st d) = some p) : look st d = d := by
  cases d with
  | loc l =>
    cases hc : st[l]? with
    | none => simp [look, hc]
    | some c =>
      cases c with
      | lst xs => simp [look, hc, dctAt] at h
      | dk kvs => simp [look, hc]
      | dt kvs => simp [look, hc]
  | _ => rfl
theorem dct_look {d : D} {v : V} {p : Nat × List (Key × D)} (hS : SimS K H m st) (r : RD K H m d v) (h : dctAt st (look st d) = some p) : ∃ a ws, d = .loc p.1 ∧ v = .ref a ∧ m.t[p.1]? = some a ∧ H a = some (.dK ws) ∧ KVR K H m p.2 ws ∧ st[p.1]? = some (.dk p.2) := by
  rw [look_dct h] at h
  exact dct_ok hS r h
theorem dtt_ok {d : D} {v : V} {p : Nat × List (List Key × D)} (hS : SimS K H m st) (r : RD K H m d v) (h : dttAt st d = some p) : ∃ a ws, d = .loc p.1 ∧ v = .ref a ∧ m.t[p.1]? = some a ∧ ws ≠ [] ∧ H a = some (.dT ws) ∧ KVR K H m p.2 ws ∧ st[p.1]? = some (.dt p.2) := by
  unfold dttAt at h
  cases r with
  | @loc l a ha =>
    simp only at h
    split at h
    · next kvs hc =>
      cases h
      obtain ⟨ws, n, e, k, q⟩ := hS.cell l a _ ha hc
      exact ⟨a, ws, rfl, rfl, ha, n, e, ⟨k, q⟩, hc⟩
    · cases h
  | _ => cases h
theorem look_dtt {d : D} {p : Nat × List (List Key × D)} (h : dttAt st (look st d) = some p) : look st d = d := by
  cases d with
  | loc l =>
    cases hc : st[l]? with
    | none => simp [look, hc]
    | some c =>
      cases c with
      | lst xs => simp [look, hc, dttAt] at h
      | dk kvs => simp [look, hc]
      | dt kvs => simp [look, hc]
  | _ => rfl
theorem dtt_look {d : D} {v : V} {p : Nat × List (List Key × D)} (hS : SimS K H m st) (r : RD K H m d v) (h : dttAt st (look st d) = some p) : ∃ a ws, d = .loc p.1 ∧ v = .ref a ∧ m.t[p.1]? = some a ∧ ws ≠ [] ∧ H a = some (.dT ws) ∧ KVR K H m p.2 ws ∧ st[p.1]? = some (.dt p.2) := by
  rw [look_dtt h] at h
  exact dtt_ok hS r h
/-- a pair of ints stands as a key -/
theorem pk_ok {e : D} {w : V} {k : List Key} (r : RD K H m e w) (h : pkS e = some k) : ∃ b, w = .ref b ∧ H b = some (.tup (k.map kV)) ∧ tkD k = e := by
  unfold pkS at h
  split at h
  · next i j =>
    cases h
    obtain ⟨b, vs, rfl, e, q⟩ := rd_pair r rfl
    cases q with
    | cons r1 q =>
      cases r1
      cases q with
      | cons r2 q =>
        cases r2
        cases q
        exact ⟨b, rfl, e, rfl⟩
  · cases h
theorem pk_look {e : D} {w : V} {k : List Key} (r : RD K H m e w) (h : pkD e = some k) : ∃ b, w = .ref b ∧ SqT K H b (k.map kV) := by
  unfold pkD at h
  split at h
  · cases h
    obtain ⟨b, vs, rfl, e, q⟩ := rd_tup r
    cases q with
    | cons r1 q =>
      cases r1
      cases q with
      | cons r2 q =>
        cases r2
        cases q
        exact ⟨b, rfl, e⟩
  · cases h
    obtain ⟨b, vs, rfl, e, q⟩ := rd_tup r
    cases q with
    | cons r1 q =>
      cases r1
      cases q with
      | cons r2 q =>
        cases r2
        cases q
        exact ⟨b, rfl, e⟩
  · cases h
theorem key_ok {e : D} {w : V} {k : Key} (r : RD K H m e w) (h : keyD e = some k) : w = kV k := by
  cases r <;> cases h <;> rfl
theorem SimS.writeD (hS : SimS K H m st) {l : Nat} {a : Addr} {kvs : List (Key × D)} {ws : List (Key × V)} (hl : m.t[l]? = some a) (r : KVR K H m kvs ws) : SimS K (upd H a (.dK ws)) m (st.set l (.dk kvs)) :=
  hS.writeC hl fun x => ⟨ws, upd_same, r.1, r.2.mono hS.cells x⟩
theorem SimS.writeT (hS : SimS K H m st) {l : Nat} {a : Addr} {kvs : List (List Key × D)} {ws : List (List Key × V)} (hl : m.t[l]? = some a) (n : ws ≠ []) (r : KVR K H m kvs ws) : SimS K (upd H a (.dT ws)) m (st.set l (.dt kvs)) :=
  hS.writeC hl fun x => ⟨ws, n, upd_same, r.1, r.2.mono hS.cells x⟩
theorem pair_rd : ∀ {ds : List D} {vs : List V} {kvs : List (Key × D)}, RDs K H m ds vs → pairD ds = some kvs → ∃ ws : List (Key × V), KVR K H m kvs ws ∧ vs = (ws.map fun kv => [kV kv.1, kv.2]).flatten
  | [], _, _, .nil, h => by cases h; exact ⟨[], .nil, rfl⟩
  | [_], _, _, .cons _ .nil, h => by cases h
  | k :: d :: ds, _, kvs, .cons r1 (.cons r2 r3), h => by
    unfold pairD at h
    split at h
    · next x q e1 e2 =>
      cases h
      obtain ⟨ws, h1, rfl⟩ := pair_rd r3 e2
      refine ⟨(x, _) :: ws, h1.cons r2, ?_⟩
      rw [key_ok r1 e1]; rfl
    · cases h
/-- a known place is put behind the table -/
theorem SimS.pushed (s : SimS K H m st) {a : Addr} {c0 : Cell} (x : Same2 H H' m (m.push a)) (na : a ∉ m.t) (nx : a ∉ m.x) (hc : ∀ b o, b ∈ m.t → H b = some o → H' b = some o) (hp : ∀ b ∈ m.x, ∃ vs, H' b = some (.lst vs)) (r : CellR K H' (m.push a) c0 a) : SimS K H' (m.push a) (st ++ [c0]) := by
  have hlen : m.t.length = st.length := s.len
  refine ⟨nodup_snoc s.nd na, by simp [Pl.push, hlen], fun l b c h1 h2 => ?_, fun b hb => ⟨fun z => ?_, hp b hb⟩⟩
  · have h1 : (m.t ++ [a])[l]? = some b := h1
    by_cases hl : l < m.t.length
    · rw [List.getElem?_append_left hl] at h1
      rw [List.getElem?_append_left (by rw [← hlen]; exact hl)] at h2
      exact (s.cell l b c h1 h2).map (fun o e _ => hc b o (List.mem_of_getElem? h1) e) fun _ _ r => r.same x
    · have hl' : l = m.t.length := by
        have := (List.getElem?_eq_some_iff.mp h1).1
        simp at this; omega
      subst hl'
      rw [List.getElem?_append_right (Nat.le_refl _)] at h1
      rw [List.getElem?_append_right (by rw [hlen]; exact Nat.le_refl _)] at h2
      simp at h1; subst h1
      rw [hlen] at h2; simp at h2; subst h2
      exact r
  · rcases List.mem_append.mp (show b ∈ m.t ++ [a] from z) with z | z
    · exact (s.pv b hb).1 z
    · simp at z; subst z; exact nx hb
/-- a dict laid ahead, filled, is shown as a cell -/
theorem dict_shown {m1 : Pl} {H1 : Hp} {st1 : Store} {p : Addr} {kvs : List (Key × D)} {ws : List (Key × V)} (hS : SimS K H m st) (hp : H p = none) (x : Ext (upd H p (.dK [])) H1 m m1) (hS1 : SimS K H1 m1 st1) (kr : KVR K H1 m1 kvs ws) :
    H1 p = some (.dK []) ∧ Ext H (upd H1 p (.dK ws)) m (m1.push p) ∧ SimS K (upd H1 p (.dK ws)) (m1.push p) (st1 ++ [.dk kvs]) ∧ RD K (upd H1 p (.dK ws)) (m1.push p) (.loc st1.length) (.ref p) := by
  obtain ⟨nt, nx⟩ := hS.notin' hp
  have e1 : H1 p = some (.dK []) := x.keep p _ upd_same nt
  have nt1 : p ∉ m1.t := fun z => by
    have := x.new p z nt
    rw [upd_same] at this; cases this
  have nx1 : p ∉ m1.x := by rw [x.pv]; exact nx
  have s2 : Same2 H1 (upd H1 p (.dK ws)) m1 (m1.push p) := by
    refine ⟨fun l b h => ?_, fun b o h n => ?_, fun b o vs h n ho => ?_⟩
    · show (m1.t ++ [p])[l]? = some b
      rw [List.getElem?_append_left (List.getElem?_eq_some_iff.mp h).1]; exact h
    · rw [upd_ne (fun e : b = p => by subst e; rw [e1] at h; cases h; exact n trivial)]; exact h
    · have ne : b ≠ p := fun e => by
        subst e; rw [e1] at h; cases h
        rcases ho with ho | ⟨_, ho⟩ <;> cases ho
      refine ⟨⟨fun z => ?_, n.2⟩, by rw [upd_ne ne]; exact h⟩
      rcases List.mem_append.mp (show b ∈ m1.t ++ [p] from z) with z | z
      · exact n.1 z
      · simp at z; exact ne z
  refine ⟨e1, ⟨fun l b h => s2.t l b (x.pre l b h), fun b h h' => ?_, fun b o h h' => ?_, x.pv⟩, ?_, .loc ?_⟩
  · rcases List.mem_append.mp (show b ∈ m1.t ++ [p] from h) with z | z
    · have := x.new b z h'
      have ne : b ≠ p := fun e => nt1 (e ▸ z)
      rw [upd_ne ne] at this; exact this
    · simp at z; subst z; exact hp
  · have ne : b ≠ p := ne_of_none h hp
    rw [upd_ne ne]
    exact x.keep b o (by rw [upd_ne ne]; exact h) h'
  · refine hS1.pushed s2 nt1 nx1 (fun b o h e => ?_) (fun b hb => ?_) ⟨ws, upd_same, kr.1, kr.2.same s2⟩
    · rw [upd_ne (fun z : b = p => nt1 (z ▸ h))]; exact e
    · obtain ⟨_, vs, e⟩ := hS1.pv b hb
      exact ⟨vs, by rw [upd_ne (fun z : b = p => nx1 (z ▸ hb))]; exact e⟩
  · rw [← hS1.len]; simp [Pl.push]
end
/-! ### a dict asked at a tuple, whatever stands for it -/
/-- what the dict at a holds at the key y -/
def DGetX (K : PySem.W.Frag) (H : Hp) (a : Addr) (y : V) (r : Option V) : Prop := DGet H a y r ∨ ∃ kvs k b, H a = some (.dT kvs) ∧ y = .ref b ∧ SqT K H b (k.map kV) ∧ r = valV kvs k
section
variable {X : Cx} {pins : List (Addr × Obj)} {σ : St} {H : Hp} {s : Shared} {a : Addr} {y v d : V} {u r : Value} {o : Option V} {A : Around} {E : Value → Shared → Prop}
theorem sq_key {ks : List Key} (I : Inv X pins σ H s) (h : SqT X.K H a (ks.map kV)) : (tupleKind (mixKind X.prog X.w)).is s.heap ks a := by
  obtain ⟨its, r, ⟨ob, h1, h2, n, h3⟩, _⟩ := I.tuple h
  exact ⟨ob, its.toArray, n, h1, h2, h3, by simpa using items_are r⟩
theorem x_typeIs (I : Inv X pins σ H s) (g : DGetX X.K H a y o) : s.TypeIs (.ref a) "dict" := by
  rcases g with g | ⟨kvs, k, b, e, _⟩
  · exact dict_typeIs I g
  · obtain ⟨_, _, xs, _, dd⟩ := dt_of I.hok e
    exact dd.typeIs
theorem x_getItem {Q : Value → Shared → Prop} (hu : A.units + 1 < cLine) (I : Inv X pins σ H s) (g : DGetX X.K H a y (some v)) (ry : RelV y u) (h : ∀ w' s', Inv X pins σ H s' → RelV v w' → Q w' s') :
    wpAny (model X.prog X.w) A (getItem (.ref a) u) Q E s := by
  rcases g with g | ⟨kvs, k, b, e, ey, eb, l⟩
  · exact d_getItem hu I g ry h
  · subst ey
    cases (show u = Value.ref b from ry)
    obtain ⟨z, hd, xs, rel, dd⟩ := dt_of I.hok e
    obtain ⟨w', hw, rw'⟩ := RelO.some_of (v := v) (o := (atKey xs k).map (·.2)) (by rw [l]; exact rel.val k)
    obtain ⟨p, hp, hp2⟩ := Option.map_eq_some_iff.mp hw
    refine wpAny_getItem_heap (tupleKind_room_in1 hu) (sq_key I eb) dd hp ?_
    rw [hp2]
    exact h w' _ (I.tok _) rw'
theorem x_in {Q : Value → Shared → Prop} (hu : A.units + 1 < cLine) (I : Inv X pins σ H s) (g : DGetX X.K H a y o) (ry : RelV y u) (h : ∀ s', Inv X pins σ H s' → Q (.bool o.isSome) s') :
    wpAny (model X.prog X.w) A (compareOp .In u (.ref a)) Q E s := by
  rcases g with g | ⟨kvs, k, b, e, ey, eb, l⟩
  · exact d_in hu I g ry h
  · subst ey
    cases (show u = Value.ref b from ry)
    obtain ⟨z, hd, xs, rel, dd⟩ := dt_of I.hok e
    refine wpAny_in_heap (tupleKind_room_in1 hu) (sq_key I eb) hd dd ?_
    have q := (rel.val k).isSome_eq
    rw [Option.isSome_map] at q
    rw [← q, ← l]
    exact h _ (I.tok _)
theorem x_notIn {Q : Value → Shared → Prop} (hu : A.units + 1 < cLine) (I : Inv X pins σ H s) (g : DGetX X.K H a y o) (ry : RelV y u) (h : ∀ s', Inv X pins σ H s' → Q (.bool (!o.isSome)) s') :
    wpAny (model X.prog X.w) A (compareOp .NotIn u (.ref a)) Q E s := by
  rcases g with g | ⟨kvs, k, b, e, ey, eb, l⟩
  · exact d_notIn hu I g ry h
  · subst ey
    cases (show u = Value.ref b from ry)
    obtain ⟨z, hd, xs, rel, dd⟩ := dt_of I.hok e
    refine PyProof.Rows.wpAny_notIn_heap (tupleKind_room_in1 hu) (sq_key I eb) hd dd ?_
    have q := (rel.val k).isSome_eq
    rw [Option.isSome_map] at q
    rw [← q, ← l]
    exact h _ (I.tok _)
theorem x_get1 {Q : Value → Shared → Prop} (hu : A.units + 1 < cLine) (I : Inv X pins σ H s) (g : DGetX X.K H a y o) (ry : RelV y u) (h : ∀ w' s', Inv X pins σ H s' → RelV (o.getD .non) w' → Q w' s') :
    wpAny (model X.prog X.w) A (call (.builtin "dict.get") [.ref a, u]) Q E s := by
  rcases g with g | ⟨kvs, k, b, e, ey, eb, l⟩
  · exact d_get1 hu I g ry h
  · subst ey
    cases (show u = Value.ref b from ry)
    obtain ⟨z, hd, xs, rel, dd⟩ := dt_of I.hok e
    refine call_meetsIn PySem.F.slot_dict_get dd.typeIs PySem.F.entry_dict_get (PySem.F.args_dict_get_2 _ _) (meetsH_dict_get (tupleKind (mixKind X.prog X.w)) a b hd) ⟨tupleKind_room_in1 hu, k, xs, sq_key I eb, dd, h _ _ (I.tok _) ?_⟩
    rw [l]
    exact (rel.val k).getD rfl
theorem x_get2 {Q : Value → Shared → Prop} (hu : A.units + 1 < cLine) (I : Inv X pins σ H s) (g : DGetX X.K H a y o) (ry : RelV y u) (rd : RelV d r) (h : ∀ w' s', Inv X pins σ H s' → RelV (o.getD d) w' → Q w' s') :
    wpAny (model X.prog X.w) A (call (.builtin "dict.get") [.ref a, u, r]) Q E s := by
  rcases g with g | ⟨kvs, k, b, e, ey, eb, l⟩
  · exact d_get2 hu I g ry rd h
  · subst ey
    cases (show u = Value.ref b from ry)
    obtain ⟨z, hd, xs, rel, dd⟩ := dt_of I.hok e
    refine call_meetsIn PySem.F.slot_dict_get dd.typeIs PySem.F.entry_dict_get (PySem.F.args_dict_get_3 _ _ _) (meetsH_dict_get_default (tupleKind (mixKind X.prog X.w)) a b hd r) ⟨tupleKind_room_in1 hu, k, xs, sq_key I eb, dd, h _ _ (I.tok _) ?_⟩
    rw [l]
    exact (rel.val k).getD rd
end
end Mi
/-! MiD: comparisons of plain data. -/
namespace Mi
open PySem PySem.Spec L2
mutual
theorem eqv_py : ∀ (a b : D), plain a = true → plain b = true → PyData.eqv (toPy a) (toPy b) = eqv a b
  | .non, b, _, h => by cases b <;> first | rfl | cases h | simp [toPy, PyData.eqv, eqv]
  | .bl x, b, _, h => by cases b <;> first | rfl | cases h | simp [toPy, PyData.eqv, eqv]
  | .int x, b, _, h => by cases b <;> first | rfl | cases h | simp [toPy, PyData.eqv, eqv]
  | .str x, b, _, h => by cases b <;> first | rfl | cases h | simp [toPy, PyData.eqv, eqv]
  | .zr, b, _, h => by cases b <;> first | rfl | cases h | simp [toPy, PyData.eqv, eqv]
  | .tup xs, b, h1, h => by
    cases b with
    | tup ys =>
      simp only [toPy, PyData.eqv, eqv]
      exact eqvs_py xs ys (by simpa [plain] using h1) (by simpa [plain] using h)
    | _ => first | rfl | cases h | simp [toPy, PyData.eqv, eqv]
  | .lst xs, b, h1, h => by
    cases b with
    | lst ys =>
      simp only [toPy, PyData.eqv, eqv]
      exact eqvs_py xs ys (by simpa [plain] using h1) (by simpa [plain] using h)
    | _ => first | rfl | cases h | simp [toPy, PyData.eqv, eqv]
  | .exc _, _, h, _ => by cases h
  | .loc _, _, h, _ => by cases h
  | .odd, _, h, _ => by cases h
theorem eqvs_py : ∀ (a b : List D), plains a = true → plains b = true → PyData.eqvAll (toPys a) (toPys b) = eqvs a b
  | [], [], _, _ => by simp [toPys, PyData.eqvAll, eqvs]
  | [], _ :: _, _, _ => by simp [toPys, PyData.eqvAll, eqvs]
  | _ :: _, [], _, _ => by simp [toPys, PyData.eqvAll, eqvs]
  | x :: xs, y :: ys, h1, h2 => by
    simp only [plains, Bool.and_eq_true] at h1 h2
    simp only [toPys, PyData.eqvAll, eqvs]
    rw [eqv_py x y h1.1 h2.1, eqvs_py xs ys h1.2 h2.2]
end
mutual
theorem plain_py : ∀ a : D, (toPy a).plain = true
  | .non => rfl
  | .bl _ => rfl
  | .int _ => rfl
  | .zr => rfl
  | .str _ => rfl
  | .tup xs => by simp only [toPy, PyData.plain]; exact plains_py xs
  | .lst xs => by simp only [toPy, PyData.plain]; exact plains_py xs
  | .exc _ => rfl
  | .loc _ => rfl
  | .odd => rfl
theorem plains_py : ∀ a : List D, PyData.plainAll (toPys a) = true
  | [] => rfl
  | x :: xs => by simp only [toPys, PyData.plainAll, plain_py x, plains_py xs]; rfl
end
mutual
theorem dep_py : ∀ a : D, (toPy a).depth = dep a
  | .non => by simp [toPy, PyData.depth, dep]
  | .bl _ => by simp [toPy, PyData.depth, dep]
  | .int _ => by simp [toPy, PyData.depth, dep]
  | .zr => by simp [toPy, PyData.depth, dep]
  | .str _ => by simp [toPy, PyData.depth, dep]
  | .tup xs => by simp only [toPy, PyData.depth, dep, deps_py xs]
  | .lst xs => by simp only [toPy, PyData.depth, dep, deps_py xs]
  | .exc _ => by simp [toPy, PyData.depth, dep]
  | .loc _ => by simp [toPy, PyData.depth, dep]
  | .odd => by simp [toPy, PyData.depth, dep]
theorem deps_py : ∀ a : List D, PyData.depthAll (toPys a) = deps a
  | [] => by simp [toPys, PyData.depthAll, deps]
  | x :: xs => by simp only [toPys, PyData.depthAll, deps, dep_py x, deps_py xs]
end
section
variable {K : PySem.W.Frag} {H : Hp} {m : Pl}
mutual
theorem RD.dp : ∀ {d : D} {v : V}, plain d = true → RD K H m d v → Dp K H v (toPy d)
  | _, _, _, .non => .non
  | _, _, _, .bl b => .bl b
  | _, _, _, .int i => .int i
  | _, _, _, .zr => .int 0
  | _, _, _, .str s => .str s
  | _, _, p, .tup h _ _ r => .tup h (RDs.dp p r)
  | _, _, p, .lst h r => .lst (.inl h.2) (RDs.dp p r)
  | _, _, p, .loc h => by cases p
  | _, _, p, .odd h => by cases p
  | _, _, p, .exc _ h => by cases p
theorem RDs.dp : ∀ {ds : List D} {vs : List V}, plains ds = true → RDs K H m ds vs → DpAll K H vs (toPys ds)
  | _, _, _, .nil => .nil
  | _, _, p, .cons h r => by
    simp only [plains, Bool.and_eq_true] at p
    exact .cons (RD.dp p.1 h) (RDs.dp p.2 r)
end
theorem dps_deep {st : Store} {n : Nat} (ih : ∀ {d : D} {v : V}, RD K H m d v → plain (deepN st n d) = true → Dp K H v (toPy (deepN st n d))) : ∀ {ds : List D} {vs : List V}, RDs K H m ds vs → plains (ds.map (deepN st n)) = true → DpAll K H vs (toPys (ds.map (deepN st n)))
  | _, _, .nil, _ => .nil
  | d :: ds, _, .cons h r, p => by
    rw [List.map_cons] at p ⊢
    simp only [plains, Bool.and_eq_true] at p
    unfold toPys
    exact .cons (ih h p.1) (dps_deep ih r p.2)
theorem deep_dp {st : Store} (hS : SimS K H m st) : ∀ (n : Nat) {d : D} {v : V}, RD K H m d v → plain (deepN st n d) = true → Dp K H v (toPy (deepN st n d))
  | 0, _, _, r, p => RD.dp p r
  | n + 1, d, v, r, p => by
    cases r with
    | tup h _ _ r =>
      unfold deepN at p ⊢
      unfold toPy
      exact .tup h (dps_deep (deep_dp hS n) r (by unfold plain at p; exact p))
    | lst h r =>
      unfold deepN at p ⊢
      unfold toPy
      exact .lst (.inl h.2) (dps_deep (deep_dp hS n) r (by unfold plain at p; exact p))
    | @loc l a ha =>
      have key : (∃ xs, st[l]? = some (.lst xs) ∧ deepN st (n + 1) (.loc l) = .lst (xs.map (deepN st n))) ∨ deepN st (n + 1) (.loc l) = .loc l := by
        unfold deepN
        split
        · next xs hc => exact .inl ⟨xs, hc, rfl⟩
        · exact .inr rfl
      rcases key with ⟨xs, hc, e⟩ | e
      · rw [e] at p ⊢
        obtain ⟨vs, h1, h2⟩ := hS.cell l a _ ha hc
        unfold toPy
        exact .lst (.inl (.inl h1)) (dps_deep (deep_dp hS n) h2 (by unfold plain at p; exact p))
      · rw [e] at p; cases p
    | non => exact .non
    | bl b => exact .bl b
    | int i => exact .int i
    | zr => exact .int 0
    | str s => exact .str s
    | odd h => cases p
    | exc _ h => cases p
/-- .. of a list at a place, too -/
theorem look_dp {st : Store} {d : D} {v : V} (hS : SimS K H m st) (r : RD K H m d v) (p : plain (look st d) = true) : Dp K H v (toPy (look st d)) := by
  cases e : look st d with
  | lst xs =>
    obtain ⟨a, vs, rfl, ha, ra⟩ := look_lst hS r e
    rw [e] at p
    exact .lst (.inl ha) (ra.dp p)
  | loc l => rw [e] at p; cases p
  | odd => rw [e] at p; cases p
  | exc l => rw [e] at p; cases p
  | tup xs => cases look_tup e; exact r.dp p
  | int xs => cases look_int e; exact r.dp p
  | str xs => cases look_str e; exact r.dp p
  | bl xs => cases look_bl e; exact r.dp p
  | zr =>
    cases look_same e (fun _ z => by cases z) (fun _ z => by cases z)
    exact r.dp p
  | non => cases look_non e; exact r.dp p
end
section
variable {X : Cx} {cls : Nat → Value} {pins : List (Addr × Obj)} {σ : L2.St} {H : Hp} {s : Shared} {m : Pl} {st : Store}
theorem comparable_p {a b : D} (h : comparable a b = true) : plain a = true ∧ plain b = true ∧ min (dep a) (dep b) ≤ 60 := by
  simpa [comparable, and_assoc] using h
theorem is_bool_gen {M : Model} {A : Around} {E Q : Value → Shared → Prop} {x : V} {v : Value} {b : Bool} (r : RelV x v) (h : Q (.bool (v == .bool b)) s) : wpAny M A (compareOp .Is v (.bool b)) Q E s := by
  cases x with
  | non => cases r; exact wpAny_pure h
  | bl c => cases (show v = Value.bool c from r); exact wpAny_pure h
  | int _ => obtain ⟨t, rfl⟩ := r; exact wpAny_pure h
  | str _ => obtain ⟨t, rfl⟩ := r; exact wpAny_pure h
  | byt _ => obtain ⟨t, rfl⟩ := r; exact wpAny_pure h
  | flt _ => obtain ⟨t, rfl⟩ := r; exact wpAny_pure h
  | ref _ => cases r; exact wpAny_pure h
  | ty _ => cases r; exact wpAny_pure h
theorem isnot_bool_gen {M : Model} {A : Around} {E Q : Value → Shared → Prop} {x : V} {v : Value} {b : Bool} (r : RelV x v) (h : Q (.bool (!(v == .bool b))) s) : wpAny M A (compareOp .IsNot v (.bool b)) Q E s := by
  cases x with
  | non => cases r; exact wpAny_pure h
  | bl c => cases (show v = Value.bool c from r); exact wpAny_pure h
  | int _ => obtain ⟨t, rfl⟩ := r; exact wpAny_pure h
  | str _ => obtain ⟨t, rfl⟩ := r; exact wpAny_pure h
  | byt _ => obtain ⟨t, rfl⟩ := r; exact wpAny_pure h
  | flt _ => obtain ⟨t, rfl⟩ := r; exact wpAny_pure h
  | ref _ => cases r; exact wpAny_pure h
  | ty _ => cases r; exact wpAny_pure h
theorem relV_bl {x : V} {v : Value} {b : Bool} (rx : RelV x v) : (v == Value.bool b) = decide (x = .bl b) := by
  cases x with
  | non => cases rx; rfl
  | bl c => cases (show v = Value.bool c from rx); cases b <;> cases c <;> rfl
  | int _ => obtain ⟨t, rfl⟩ := rx; rfl
  | str _ => obtain ⟨t, rfl⟩ := rx; rfl
  | byt _ => obtain ⟨t, rfl⟩ := rx; rfl
  | flt _ => obtain ⟨t, rfl⟩ := rx; rfl
  | ref _ => cases rx; rfl
  | ty _ => cases rx; rfl
theorem same_ok {a b : D} {x y : V} {k : Bool} {K : PySem.W.Frag} (ra : RD K H m a x) (rb : RD K H m b y) (h : same a b = some k) : (y = .non ∧ k = decide (x = .non)) ∨ ∃ c, y = .bl c ∧ k = decide (x = .bl c) := by
  cases b with
  | non =>
    cases rb
    refine .inl ⟨rfl, ?_⟩
    simp only [same, Option.some.injEq] at h
    subst h
    cases ra <;> simp
  | bl c =>
    cases rb
    refine .inr ⟨c, rfl, ?_⟩
    simp only [same, Option.some.injEq] at h
    subst h
    cases ra <;> simp
    next b => cases b <;> cases c <;> rfl
  | _ => cases h
theorem deps_le {a : D} {n : Nat} : ∀ {xs : List D}, (∀ x ∈ xs, min (dep x) (dep a) ≤ n) → min (deps xs) (dep a) ≤ n
  | [], _ => by simp [deps]
  | x :: xs, h => by
    have h1 := h x List.mem_cons_self
    have h2 := deps_le (xs := xs) fun y hy => h y (List.mem_cons_of_mem _ hy)
    simp only [deps]
    omega
theorem plains_of {xs : List D} (h : ∀ x ∈ xs, plain x = true) : plains xs = true := by
  induction xs with
  | nil => rfl
  | cons x xs ih => simp only [plains, h x List.mem_cons_self, ih fun y hy => h y (List.mem_cons_of_mem _ hy)]; rfl
theorem any_py {a : D} (pa : plain a = true) : ∀ {xs : List D}, plains xs = true → ((toPys xs).any fun y => PyData.eqv y (toPy a)) = xs.any fun x => eqv x a
  | [], _ => rfl
  | x :: xs, h => by
    simp only [plains, Bool.and_eq_true] at h
    simp only [toPys, List.any_cons, eqv_py x a h.1 pa, any_py pa h.2]
theorem inseq_p {a : D} {xs : List D} {k : Bool} (h : inseq a xs = some k) : plain a = true ∧ plains xs = true ∧ min (deps xs) (dep a) ≤ 60 ∧ k = xs.any fun x => eqv x a := by
  unfold inseq at h
  split at h
  · next c =>
    simp only [Bool.and_eq_true, List.all_eq_true] at c
    cases h
    exact ⟨c.1, plains_of fun x hx => (comparable_p (c.2 x hx)).1, deps_le fun x hx => (comparable_p (c.2 x hx)).2.2, rfl⟩
  · cases h
theorem look_lstP {d : D} {v : V} {xs : List D} {K : PySem.W.Frag} (hS : SimS K H m st) (r : RD K H m d v) (e : look st d = .lst xs) (p : plains xs = true) : Dp K H v (.list (toPys xs)) := by
  obtain ⟨a, vs, rfl, ha, ra⟩ := look_lst hS r e
  exact .lst (.inl ha) (ra.dp p)
theorem less_ok {a b : D} {k : Bool} (h : less a b = some k) : (∃ i j, a = .int i ∧ b = .int j ∧ k = decide (i < j)) ∨ ∃ x y, a = .str x ∧ b = .str y ∧ k = decide (x.cps.toList < y.cps.toList) := by
  unfold less at h
  split at h
  · cases h; exact .inl ⟨_, _, rfl, rfl, rfl⟩
  · cases h; exact .inr ⟨_, _, rfl, rfl, rfl⟩
  · cases h
theorem boolR_some {K : PySem.W.Frag} {W : WX} {o : Option Bool} {Q : VK} (p : Post K cls (relD K) W m H σ Q (boolR o st)) (hS : SimS K H m st) : ∃ k, o = some k ∧ Q (.bl k) H := by
  cases o with
  | none => exact False.elim p
  | some k => exact ⟨k, rfl, p.here hS (.bl k)⟩
def cmpOf : COp → CmpOp
  | .eq => .Eq | .ne => .NotEq | .lt => .Lt | .le => .LtE | .gt => .Gt | .ge => .GtE | .isc => .Is | .isn => .IsNot | .inn => .In | .nin => .NotIn
theorem member_ok {a b : D} {x y : V} {k : Bool} (hS : SimS X.K H m st) (ra : RD X.K H m a x) (rb : RD X.K H m b y) (h : member st a b = some k) :
    (∃ i j, x = .str i ∧ y = .str j ∧ k = subIn i j) ∨ (∃ da xs, Dp X.K H x da ∧ (Dp X.K H y (.list xs) ∨ Dp X.K H y (.tuple xs)) ∧ da.plain = true ∧ PyData.plainAll xs = true ∧ min (PyData.depthAll xs) da.depth ≤ 60 ∧ k = xs.any fun z => PyData.eqv z da) ∨ ∃ c o, y = .ref c ∧ DGetX X.K H c x o ∧ k = o.isSome := by
  unfold member at h
  split at h
  · next j hb =>
    cases look_str hb
    split at h
    · next i => cases h; cases ra; cases rb; exact .inl ⟨i, j, rfl, rfl, rfl⟩
    · cases h
  · next xs hb =>
    cases look_tup hb
    obtain ⟨p1, p2, p3, e⟩ := inseq_p h
    obtain ⟨c, vs, rfl, hc, rc⟩ := rd_tup rb
    exact .inr (.inl ⟨_, toPys xs, look_dp hS ra p1, .inr (.tup hc (rc.dp p2)), plain_py _, plains_py _, by rw [deps_py, dep_py]; exact p3, by rw [any_py p1 p2]; exact e⟩)
  · next xs hb =>
    obtain ⟨p1, p2, p3, e⟩ := inseq_p h
    exact .inr (.inl ⟨_, toPys xs, look_dp hS ra p1, .inl (look_lstP hS rb hb p2), plain_py _, plains_py _, by rw [deps_py, dep_py]; exact p3, by rw [any_py p1 p2]; exact e⟩)
  · split at h
    · next p q e1 e2 =>
      cases h
      obtain ⟨a, ws, hl, rfl, ha, hH, hk, hc⟩ := dct_look hS rb e1
      cases key_ok ra e2
      refine .inr (.inr ⟨a, valV ws q, rfl, .inl (.k hH), ?_⟩)
      rcases hk.val q with ⟨h1, h2⟩ | ⟨d, v, h1, h2, _⟩ <;> (rw [h1, h2]; try rfl)
    · split at h
      · next p q e1 e2 =>
        cases h
        obtain ⟨a, ws, hl, rfl, ha, _, hH, hk, hc⟩ := dtt_look hS rb e1
        obtain ⟨b, rfl, eb⟩ := pk_look ra e2
        refine .inr (.inr ⟨a, valV ws q, rfl, .inr ⟨ws, q, b, hH, rfl, eb, rfl⟩, ?_⟩)
        rcases hk.val q with ⟨h1, h2⟩ | ⟨d, v, h1, h2, _⟩ <;> (rw [h1, h2]; try rfl)
      · cases h
theorem emptyEq_ok {a b : D} {x y : V} {k : Bool} (hS : SimS X.K H m st) (ra : RD X.K H m a x) (rb : RD X.K H m b y) (h : emptyEq st (look st a) (look st b) = some k) :
    (∃ p q vs, x = .ref p ∧ y = .ref q ∧ SqT X.K H p vs ∧ SqT X.K H q [] ∧ k = vs.isEmpty) ∨ (∃ p q ws, x = .ref p ∧ y = .ref q ∧ H p = some (.dK ws) ∧ H q = some (.dK []) ∧ k = ws.isEmpty) ∨ ∃ p q ws, x = .ref p ∧ y = .ref q ∧ ws ≠ [] ∧ H p = some (.dT ws) ∧ H q = some (.dK []) ∧ k = false := by
  unfold emptyEq at h
  split at h
  · next xs hx hy =>
    cases h
    cases look_tup hx; cases look_tup hy
    obtain ⟨p, vs, rfl, hp, rp⟩ := rd_tup ra
    obtain ⟨q, us, rfl, hq, rq⟩ := rd_tup rb
    cases rq
    exact .inl ⟨p, q, vs, rfl, rfl, hp, hq, rp.isEmpty⟩
  · split at h
    · next p q e1 e2 =>
      obtain ⟨a', ws, _, rfl, _, hH, hk, _⟩ := dct_look hS ra e1
      obtain ⟨b', us, _, rfl, _, hH2, hk2, _⟩ := dct_look hS rb e2
      split at h
      · next he =>
        cases h
        have hq : q.2 = [] := by simpa using he
        rw [hq] at hk2
        cases hk2.nil_inv
        refine .inr (.inl ⟨a', b', ws, rfl, rfl, hH, hH2, ?_⟩)
        have hl := hk.length
        generalize p.2 = kvs at hl
        cases kvs <;> cases ws <;> first | rfl | (simp at hl)
      · cases h
    · next q e1 e2 =>
      split at h
      · next p e3 =>
        obtain ⟨a', ws, _, rfl, _, hne, hH, hk, _⟩ := dtt_look hS ra e3
        obtain ⟨b', us, _, rfl, _, hH2, hk2, _⟩ := dct_look hS rb e2
        split at h
        · next he =>
          cases h
          have hq : q.2 = [] := by simpa using he
          rw [hq] at hk2
          cases hk2.nil_inv
          refine .inr (.inr ⟨a', b', ws, rfl, rfl, hne, hH, hH2, ?_⟩)
          have hl := hk.length
          generalize p.2 = kvs at hl
          cases kvs
          · cases ws
            · exact absurd rfl hne
            · simp at hl
          · rfl
        · cases h
      · cases h
    · cases h
theorem raws_ne {pins : List (Addr × Obj)} {σ : L2.St} {s : Shared} {p q : Addr} {ws : List (List Key × V)} (I : L2.Inv X pins σ H s) (hne : ws ≠ []) (ha : H p = some (.dT ws)) (hb : H q = some (.dK [])) : ∃ (es : Array DictEntry) (ep : Nat) (es' : Array DictEntry) (ep' : Nat), (p == sysModules) = false ∧ (q == sysModules) = false ∧ DT.Raw s.heap p es ep ∧ DT.Raw s.heap q es' ep' ∧ es.size ≠ es'.size := by
  obtain ⟨_, ya, xs, ra, o, es, ep, ho, hx, hd, he, _⟩ := dt_of I.hok ha
  obtain ⟨_, yb, vb, rb, o', es', ep', ho', hx', hd', _, prs, _⟩ := dk_of I.hok hb
  cases rb
  refine ⟨es, ep, es', ep', ya, yb, ⟨o, ho, hx, hd⟩, ⟨o', ho', hx', hd'⟩, ?_⟩
  have l1 : es.size = ws.length := by
    rw [← Array.length_toList, he, List.length_map]
    exact ra.length.symm
  have l2 : es'.size = 0 := by
    rw [← Array.length_toList, prs.length]
    rfl
  have : 0 < ws.length := List.length_pos_iff.mpr hne
  omega
section
variable {prog : Program} {w : World} {A : Around} {E : Value → Shared → Prop} {s : Shared} {a b : Addr} {es es' : Array DictEntry} {ep ep' : Nat}
theorem rw_samePairs {nm : String} {Q : Bool → Shared → Prop} (ha : (a == sysModules) = false) (hb : (b == sysModules) = false) (da : DT.Raw s.heap a es ep) (db : DT.Raw s.heap b es' ep') (hsz : es.size ≠ es'.size) (h : Q false s) :
    wpAny (model prog w) A (Builtin.Dict.samePairs nm a b) Q E s := by
  obtain ⟨oa, hoa, _, hda⟩ := da
  obtain ⟨ob, hob, _, hdb⟩ := db
  unfold Builtin.Dict.samePairs Builtin.Dict.showsAll
  rw [if_neg (show ¬ (a == sysModules) = true by rw [ha]; exact Bool.false_ne_true), if_neg (show ¬ (b == sysModules) = true by rw [hb]; exact Bool.false_ne_true)]
  refine wpAny_bind (wpAny_pure (wpAny_bind (wpAny_pure ?_)))
  refine wpAny_bind (wpAny_dictEntries hoa hda ?_)
  dsimp only
  refine wpAny_bind (wpAny_dictEntries hob hdb ?_)
  rw [if_pos (by simpa using hsz)]
  exact wpAny_bind (wpAny_rule (wpAny_pure h))
theorem rw_eq {Q : Value → Shared → Prop} (ha : (a == sysModules) = false) (hb : (b == sysModules) = false) (da : DT.Raw s.heap a es ep) (db : DT.Raw s.heap b es' ep') (hsz : es.size ≠ es'.size) (hu : A.units < cLine) (h : Q (.bool false) s) :
    wpAny (model prog w) A (compareOp .Eq (.ref a) (.ref b)) Q E s := by
  refine wpAny_richCompare_same_room (op := .Eq) da.typeIs db.typeIs PySem.F.slot_dict_eq (wpAny_call_entry PySem.F.slot_dict_eq da.typeIs PySem.F.entry_dict_eq ?_ (PySem.F.args_dict_eq_2 _ _)) hu
  show wpAny _ _ (Builtin.Dict.dictSlotArgs "__eq__" ⟨[.ref a, .ref b], []⟩ >>= _) _ _ s
  refine wpAny_bind ?_
  unfold Builtin.Dict.dictSlotArgs
  refine wpAny_bind (wpAny_notOrdered_dict da.typeIs ?_)
  show wpAny _ _ (pure (Value.ref a, Value.ref b)) _ _ s
  refine wpAny_pure ?_
  refine wpAny_bind (wpAny_isInstance (T := "dict") db.typeIs PySem.F.sub_dict_dict ?_)
  simp only [Bool.not_true, Bool.false_eq_true, if_false]
  refine wpAny_bind (wpAny_pure (wpAny_bind (wpAny_pure ?_)))
  refine wpAny_bind (rw_samePairs ha hb da db hsz ?_)
  exact wpAny_pure ⟨_, rfl, (fun x => nomatch x), h⟩
theorem rw_ne {Q : Value → Shared → Prop} (ha : (a == sysModules) = false) (hb : (b == sysModules) = false) (da : DT.Raw s.heap a es ep) (db : DT.Raw s.heap b es' ep') (hsz : es.size ≠ es'.size) (hu : A.units < cLine) (h : Q (.bool (!false)) s) :
    wpAny (model prog w) A (compareOp .NotEq (.ref a) (.ref b)) Q E s := by
  refine wpAny_richCompare_same_room (op := .NotEq) da.typeIs db.typeIs PySem.F.slot_dict_ne (wpAny_call_entry PySem.F.slot_dict_ne da.typeIs PySem.F.entry_dict_ne ?_ (PySem.F.args_dict_ne_2 _ _)) hu
  show wpAny _ _ (Builtin.Dict.dictSlotArgs "__ne__" ⟨[.ref a, .ref b], []⟩ >>= _) _ _ s
  refine wpAny_bind ?_
  unfold Builtin.Dict.dictSlotArgs
  refine wpAny_bind (wpAny_notOrdered_dict da.typeIs ?_)
  show wpAny _ _ (pure (Value.ref a, Value.ref b)) _ _ s
  refine wpAny_pure ?_
  refine wpAny_bind (wpAny_isInstance (T := "dict") db.typeIs PySem.F.sub_dict_dict ?_)
  simp only [Bool.not_true, Bool.false_eq_true, if_false]
  refine wpAny_bind (wpAny_pure (wpAny_bind (wpAny_pure ?_)))
  refine wpAny_bind (rw_samePairs ha hb da db hsz ?_)
  exact wpAny_pure ⟨_, rfl, (fun x => nomatch x), h⟩
end
theorem empty_tup {vs : List V} {its : List Value} (r : Vals vs its) : ((List.range (min its.toArray.size ([] : List Value).toArray.size)).all (fun _ => true) && its.toArray.size == ([] : List Value).toArray.size) = vs.isEmpty := by
  cases r <;> simp
theorem empty_dct {ws : List (Key × V)} {va : List (Key × Value)} (r : KV ws va) : (va.length == ([] : List (Key × Value)).length && true) = ws.isEmpty := by
  cases r <;> simp
theorem opC {op : COp} (hu : X.A.units + 64 < cLine) : OpR X (compareOp (cmpOf op)) (rB X.K cls (compop op)) := by
  intro pins s σ H x y v u Q I rx ry h
  obtain ⟨W, σ', m, st, d, e, hS, rd, re, hP⟩ := h
  have hin : ∀ {k : Nat}, k ≤ 60 → X.A.units + 1 + k < cLine := fun h => by omega
  cases op with
  | eq =>
    simp only [compop] at hP
    split at hP
    · next hc =>
      obtain ⟨p1, p2, p3⟩ := comparable_p hc
      obtain ⟨as, r1⟩ := Dp.reads I _ x v (look_dp hS rd p1) rx
      obtain ⟨bs, r2⟩ := Dp.reads I _ y u (look_dp hS re p2) ry
      refine SeqAt.eq_plain r1 r2 (plain_py _) (plain_py _) (by rw [dep_py, dep_py]; have := hin p3; omega) ?_
      rw [eqv_py _ _ p1 p2]
      exact ⟨.bl _, H, I, rfl, hP.here hS (.bl _)⟩
    · obtain ⟨k, e1, q⟩ := boolR_some hP hS
      rcases emptyEq_ok hS rd re e1 with ⟨a, b, vs, rfl, rfl, ha, hb, rfl⟩ | ⟨a, b, ws, rfl, rfl, ha, hb, rfl⟩ | ⟨a, b, ws, rfl, rfl, hne, ha, hb, rfl⟩
      · cases rx; cases ry
        obtain ⟨its, r1, p1, _⟩ := I.tuple ha
        obtain ⟨its2, r2, p2, _⟩ := I.tuple hb
        cases r2
        have hu' : X.A.units < cLine := by omega
        have := SeqAt.RcAt.tuples (A := X.A) (s := s) (e := fun _ => true) p1 p2 hu' (fun j h1 h2 => absurd h2 (by simp))
        refine this X.prog X.w X.xe _ ?_
        rw [empty_tup r1]
        exact ⟨.bl _, H, I, rfl, q⟩
      · cases rx; cases ry
        obtain ⟨_, ya, va, ra, da⟩ := dk_rd I.hok (.inl ha)
        obtain ⟨_, yb, vb, rb, db⟩ := dk_rd I.hok (.inl hb)
        cases rb
        refine PySem.W.keq_eq (knd := mixKind X.prog X.w) (r := true) ya yb da db (by omega) (fun hl => ?_) ?_
        · cases va with
          | nil => cases ra; exact hits_all .nil .nil (fun _ h => by cases h)
          | cons _ _ => simp at hl
        · rw [empty_dct ra]
          exact ⟨.bl _, H, I, rfl, q⟩
      · cases rx; cases ry
        obtain ⟨es, ep, es', ep', ya, yb, wa, wb, hsz⟩ := raws_ne I hne ha hb
        exact rw_eq ya yb wa wb hsz (by omega) ⟨.bl _, H, I, rfl, q⟩
  | ne =>
    simp only [compop] at hP
    split at hP
    · next hc =>
      obtain ⟨p1, p2, p3⟩ := comparable_p hc
      obtain ⟨as, r1⟩ := Dp.reads I _ x v (look_dp hS rd p1) rx
      obtain ⟨bs, r2⟩ := Dp.reads I _ y u (look_dp hS re p2) ry
      refine SeqAt.ne_plain r1 r2 (plain_py _) (plain_py _) (by rw [dep_py, dep_py]; have := hin p3; omega) ?_
      rw [eqv_py _ _ p1 p2]
      exact ⟨.bl _, H, I, rfl, hP.here hS (.bl _)⟩
    · obtain ⟨k, e1, q⟩ := boolR_some hP hS
      obtain ⟨k', e2, rfl⟩ := Option.map_eq_some_iff.mp e1
      rcases emptyEq_ok hS rd re e2 with ⟨a, b, vs, rfl, rfl, ha, hb, rfl⟩ | ⟨a, b, ws, rfl, rfl, ha, hb, rfl⟩ | ⟨a, b, ws, rfl, rfl, hne, ha, hb, rfl⟩
      · cases rx; cases ry
        obtain ⟨its, r1, p1, _⟩ := I.tuple ha
        obtain ⟨its2, r2, p2, _⟩ := I.tuple hb
        cases r2
        have hu' : X.A.units < cLine := by omega
        have := SeqAt.RcNeAt.tuples (A := X.A) (s := s) (e := fun _ => true) p1 p2 hu' (fun j h1 h2 => absurd h2 (by simp))
        refine this X.prog X.w X.xe _ ?_
        rw [empty_tup r1]
        exact ⟨.bl _, H, I, rfl, q⟩
      · cases rx; cases ry
        obtain ⟨_, ya, va, ra, da⟩ := dk_rd I.hok (.inl ha)
        obtain ⟨_, yb, vb, rb, db⟩ := dk_rd I.hok (.inl hb)
        cases rb
        refine PySem.W.keq_ne (knd := mixKind X.prog X.w) (r := true) ya yb da db (by omega) (fun hl => ?_) ?_
        · cases va with
          | nil => cases ra; exact hits_all .nil .nil (fun _ h => by cases h)
          | cons _ _ => simp at hl
        · rw [empty_dct ra]
          exact ⟨.bl _, H, I, rfl, q⟩
      · cases rx; cases ry
        obtain ⟨es, ep, es', ep', ya, yb, wa, wb, hsz⟩ := raws_ne I hne ha hb
        exact rw_ne ya yb wa wb hsz (by omega) ⟨.bl _, H, I, rfl, q⟩
  | lt =>
    obtain ⟨k, e1, q⟩ := boolR_some hP hS
    rcases less_ok e1 with ⟨i, j, rfl, rfl, rfl⟩ | ⟨i, j, rfl, rfl, rfl⟩
    · cases rd; cases re; exact op_lt pins s σ H _ _ v u Q I rx ry ⟨i, j, rfl, rfl, q⟩
    · cases rd; cases re; exact op_lt_str pins s σ H _ _ v u Q I rx ry ⟨i, j, rfl, rfl, q⟩
  | gt =>
    obtain ⟨k, e1, q⟩ := boolR_some hP hS
    rcases less_ok e1 with ⟨i, j, rfl, rfl, rfl⟩ | ⟨i, j, rfl, rfl, rfl⟩
    · cases rd; cases re; exact op_gt pins s σ H _ _ v u Q I rx ry ⟨j, i, rfl, rfl, q⟩
    · cases rd; cases re; exact op_gt_str pins s σ H _ _ v u Q I rx ry ⟨j, i, rfl, rfl, q⟩
  | le =>
    obtain ⟨k, e1, q⟩ := boolR_some hP hS
    obtain ⟨k', e2, rfl⟩ := Option.map_eq_some_iff.mp e1
    rcases less_ok e2 with ⟨i, j, rfl, rfl, rfl⟩ | ⟨i, j, rfl, rfl, rfl⟩
    · cases rd; cases re
      refine op_le pins s σ H _ _ v u Q I rx ry ⟨j, i, rfl, rfl, ?_⟩
      show Q (.bl (decide (j ≤ i))) H
      rw [show decide (j ≤ i) = !decide (i < j) by rw [← decide_not]; exact decide_eq_decide.mpr (by omega)]
      exact q
    · cases rd; cases re
      refine op_le_str pins s σ H _ _ v u Q I rx ry ⟨j, i, rfl, rfl, ?_⟩
      exact q
  | ge =>
    obtain ⟨k, e1, q⟩ := boolR_some hP hS
    obtain ⟨k', e2, rfl⟩ := Option.map_eq_some_iff.mp e1
    rcases less_ok e2 with ⟨i, j, rfl, rfl, rfl⟩ | ⟨i, j, rfl, rfl, rfl⟩
    · cases rd; cases re
      refine op_ge pins s σ H _ _ v u Q I rx ry ⟨i, j, rfl, rfl, ?_⟩
      show Q (.bl (decide (j ≤ i))) H
      rw [show decide (j ≤ i) = !decide (i < j) by rw [← decide_not]; exact decide_eq_decide.mpr (by omega)]
      exact q
    · cases rd; cases re
      refine op_ge_str pins s σ H _ _ v u Q I rx ry ⟨i, j, rfl, rfl, ?_⟩
      exact q
  | isc =>
    obtain ⟨k, e1, q⟩ := boolR_some hP hS
    rcases same_ok rd re e1 with ⟨rfl, rfl⟩ | ⟨c, rfl, rfl⟩
    · exact op_isN pins s σ H _ _ v u Q I rx ry ⟨rfl, q⟩
    · cases (show u = Value.bool c from ry)
      refine is_bool_gen rx ?_
      rw [relV_bl rx]
      exact ⟨.bl _, H, I, rfl, q⟩
  | isn =>
    obtain ⟨k, e1, q⟩ := boolR_some hP hS
    obtain ⟨k', e2, rfl⟩ := Option.map_eq_some_iff.mp e1
    rcases same_ok rd re e2 with ⟨rfl, rfl⟩ | ⟨c, rfl, rfl⟩
    · exact op_notN pins s σ H _ _ v u Q I rx ry ⟨rfl, q⟩
    · cases (show u = Value.bool c from ry)
      refine isnot_bool_gen rx ?_
      rw [relV_bl rx]
      exact ⟨.bl _, H, I, rfl, q⟩
  | inn =>
    obtain ⟨k, e1, q⟩ := boolR_some hP hS
    rcases member_ok hS rd re e1 with ⟨i, j, rfl, rfl, rfl⟩ | ⟨da, xs, h1, h2, p1, p2, p3, rfl⟩ | ⟨c, o, rfl, g, rfl⟩
    · exact op_in_str pins s σ H _ _ v u Q I rx ry ⟨i, j, rfl, rfl, q⟩
    · obtain ⟨as, r1⟩ := Dp.reads I _ x v h1 rx
      rcases h2 with h2 | h2 <;> obtain ⟨bs, r2⟩ := Dp.reads I _ y u h2 ry
      · exact SeqAt.in_list_data r2 r1 p2 p1 (hin p3) ⟨.bl _, H, I, rfl, q⟩
      · exact SeqAt.in_tuple_data r2 r1 p2 p1 (hin p3) ⟨.bl _, H, I, rfl, q⟩
    · cases (show u = Value.ref c from ry)
      exact x_in (by omega) I g rx fun s' I' => ⟨.bl _, H, I', rfl, q⟩
  | nin =>
    obtain ⟨k, e1, q⟩ := boolR_some hP hS
    obtain ⟨k', e2, rfl⟩ := Option.map_eq_some_iff.mp e1
    rcases member_ok hS rd re e2 with ⟨i, j, rfl, rfl, rfl⟩ | ⟨da, xs, h1, h2, p1, p2, p3, rfl⟩ | ⟨c, o, rfl, g, rfl⟩
    · exact op_notin_str pins s σ H _ _ v u Q I rx ry ⟨i, j, rfl, rfl, q⟩
    · obtain ⟨as, r1⟩ := Dp.reads I _ x v h1 rx
      rcases h2 with h2 | h2 <;> obtain ⟨bs, r2⟩ := Dp.reads I _ y u h2 ry
      · exact SeqAt.notIn_list_data r2 r1 p2 p1 (hin p3) ⟨.bl _, H, I, rfl, q⟩
      · exact SeqAt.notIn_tuple_data r2 r1 p2 p1 (hin p3) ⟨.bl _, H, I, rfl, q⟩
    · cases (show u = Value.ref c from ry)
      exact x_notIn (by omega) I g rx fun s' I' => ⟨.bl _, H, I', rfl, q⟩
end
end Mi
/-! MiR: sorted(xs) of data. -/
namespace Mi
open PySem PySem.Spec L2 PySem.W
section
variable {X : Cx} {pins : List (Addr × Obj)} {σ : L2.St} {H : Hp} {s : Shared} {m : Pl}
/-- a value that stands for a thing -/
def Stands (K : PySem.W.Frag) (H : Hp) (m : Pl) (v : Value) (d : D) : Prop := ∃ x, RD K H m d x ∧ L2.RelV x v
theorem each_of : ∀ {ds : List D} {vs : List V} {us : List Value}, RDs X.K H m ds vs → Vals vs us → EachIs (Stands X.K H m) us ds
  | _, _, _, .nil, .nil => .nil
  | _, _, _, .cons r t, .cons q u => .cons ⟨_, r, q⟩ (each_of t u)
theorem each_back : ∀ {us : List Value} {ds : List D}, EachIs (Stands X.K H m) us ds → ∃ vs, RDs X.K H m ds vs ∧ Vals vs us
  | _, _, .nil => ⟨[], .nil, .nil⟩
  | _, _, .cons ⟨x, r, q⟩ t => by
    obtain ⟨vs, h1, h2⟩ := each_back t
    exact ⟨x :: vs, .cons r h1, .cons q h2⟩
theorem each_reads (I : L2.Inv X pins σ H s) : ∀ {us : List Value} {ds : List D}, plains ds = true → EachIs (Stands X.K H m) us ds → EachIs (fun v d => ∃ as, Reads s.heap v (toPy d) as) us ds
  | _, _, _, .nil => .nil
  | _, _, p, .cons ⟨x, r, q⟩ t => by
    simp only [plains, Bool.and_eq_true] at p
    exact .cons (Dp.reads I _ x _ (r.dp p.1) q) (each_reads I p.2 t)
theorem deps_mem : ∀ {xs : List D} {d : D}, d ∈ xs → dep d ≤ deps xs
  | x :: xs, d, h => by
    unfold deps
    cases h with
    | head => exact Nat.le_max_left _ _
    | tail _ h => exact Nat.le_trans (deps_mem h) (Nat.le_max_right _ _)
theorem sortOk_p {xs : List D} (h : sortOk xs = true) : plains xs = true ∧ AllAlike (xs.map toPy) ∧ Sortable (xs.map toPy) ∧ deps xs ≤ 60 ∧ xs.length ≤ sizeLine := by
  simp only [sortOk, Bool.and_eq_true, decide_eq_true_eq, List.all_eq_true, Bool.or_eq_true] at h
  obtain ⟨⟨⟨⟨h1, h2⟩, h3⟩, h4⟩, h5⟩ := h
  refine ⟨h1, fun d hd d' hd' => ?_, ?_, h4, h5⟩
  · obtain ⟨a, ha, rfl⟩ := List.mem_map.mp hd
    obtain ⟨b, hb, rfl⟩ := List.mem_map.mp hd'
    exact h2 a ha b hb
  · rcases h3 with h3 | h3
    · refine .inl fun d hd => ?_
      obtain ⟨a, ha, rfl⟩ := List.mem_map.mp hd
      have := h3 a ha
      split at this
      · exact ⟨_, _, rfl⟩
      · cases this
    · refine .inr fun d hd => ?_
      obtain ⟨a, ha, rfl⟩ := List.mem_map.mp hd
      have := h3 a ha
      have pa : plain a = true := by
        clear h2 h3 h4 h5 hd
        induction xs with
        | nil => cases ha
        | cons y ys ih =>
          simp only [plains, Bool.and_eq_true] at h1
          cases ha with
          | head => exact h1.1
          | tail _ ha => exact ih h1.2 ha
      cases a with
      | tup _ => cases this
      | non => cases this
      | exc _ => cases pa
      | loc _ => cases pa
      | odd => cases pa
      | bl _ => exact ⟨(fun z => by cases z), fun _ z => by cases z⟩
      | int _ => exact ⟨(fun z => by cases z), fun _ z => by cases z⟩
      | zr => exact ⟨(fun z => by cases z), fun _ z => by cases z⟩
      | str _ => exact ⟨(fun z => by cases z), fun _ z => by cases z⟩
      | lst _ => exact ⟨(fun z => by cases z), fun _ z => by cases z⟩
theorem srt_rule (hu : X.A.units + 64 < cLine) {a : Addr} {vs : List V} {xs : List D} {u : Value} {Q : VK} (I : L2.Inv X pins σ H s) (ru : L2.RelV (.ref a) u) (ha : SqL X.K H a vs) (ra : RDs X.K H m xs vs) (hk : sortOk xs = true)
    (q : ∀ ws, RDs X.K H m (sortD xs) ws → ws.length ≤ sizeLine ∧ ∀ p, H p = none → Q (.ref p) (upd H p (.lst ws))) : wpAny (model X.prog X.w) X.A (call (.builtin "sorted") [u]) (EP X pins σ Q) X.xe s := by
  cases (show u = Value.ref a from ru)
  obtain ⟨h1, h2, h3, h4, h5⟩ := sortOk_p hk
  obtain ⟨its, r, hl, hz⟩ := I.list ha
  have e := each_of ra r
  refine sorted_data (enc := toPy) (R := Stands X.K H m) hl.isList e (each_reads I h1 e) h2 h3 h5 (fun b hb => by rw [dep_py]; have := deps_mem hb; omega) fun out ho eo => ?_
  obtain ⟨ws, w1, w2⟩ := each_back eo
  obtain ⟨q1, q2⟩ := q ws w1
  obtain ⟨ep, he'⟩ := PyProof.Rows.sortedAll_at s.heap its out.toArray
  exact ⟨.ref _, L2.upd H (s.heap.objs.size + 1) (.lst ws), I.laid (t' := s.toks) (fun _ _ => PyProof.Rows.sortedAll_old) (Nat.le_succ _) ⟨q1, out, ep, w2, he'⟩, rfl, q2 _ (I.hok.fresh (Nat.le_succ _))⟩
end
end Mi
/-! MiX: a set of texts out of a list, and its members in order. -/
namespace Mi
open PySem PySem.Spec L2 PyProof.Rows
/-- a text's value -/
def vtx : Value → Str
  | .str x _ => x
  | _ => ⟨#[]⟩
abbrev Ents := Array (Int × Value)
/-- the set's table at a, as it is walked; its things are texts -/
structure Laid (w : World) (h : Heap) (a : Addr) (es : Ents) (t : SetTable) : Prop where
  ob : ∃ o ep, h.get? a = some o ∧ o.ExactSet ∧ o.data = .set es ep t
  small : es.size < scanBound
  fit : t.fits es.size = true
  rise : Ris t.place.toList
  led : w.params.followText "set-order" = true ∨ t.led = true
  txt : ∀ e ∈ es.toList, ∃ x tk, e = (hashStr w x, Value.str x tk)
def mem (es : Ents) : List Str := es.toList.map fun e => vtx e.2
section
variable {P : Program} {w : World} {A : Around} {E : Value → Shared → Prop} {s : Shared} {a : Addr} {es : Ents} {t : SetTable}
theorem Laid.keep {h h' : Heap} (L : Laid w h a es t) (k : ∀ o, h.get? a = some o → h'.get? a = some o) : Laid w h' a es t := by
  obtain ⟨o, ep, e, q⟩ := L.ob
  exact ⟨⟨o, ep, k o e, q⟩, L.small, L.fit, L.rise, L.led, L.txt⟩
theorem Laid.elems {h : Heap} (L : Laid w h a es t) : ElemsOf (PySem.strKind P w) es.toList := fun e he => by
  obtain ⟨x, tk, rfl⟩ := L.txt e he
  exact ⟨⟨x, PySem.strKind_is P w x tk, rfl⟩, rfl⟩
theorem Laid.is {h : Heap} (L : Laid w h a es t) {e : Int × Value} (he : e ∈ es.toList) (x : Str) : (PySem.strKind P w).is x e.2 = true ↔ vtx e.2 = x := by
  obtain ⟨y, tk, rfl⟩ := L.txt e he
  show Value.isStrOf x (.str y tk) = true ↔ y = x
  simp [Value.isStrOf]
/-- what stands behind the putting of new entries: another table at a -/
theorem put_there {o : Obj} {ep : Nat} {es1 : Ents} {t1 : SetTable} (hg : s.heap.get? a = some o) (hx : o.ExactSet) (dt : o.data = .set es ep t) :
    ∃ o1 ep1, (s.heap.update a (Obj.putSet es1 t1)).get? a = some o1 ∧ o1.ExactSet ∧ o1.data = .set es1 ep1 t1 := by
  refine ⟨{ o with data := .set es1 (ep + 1) t1 }, ep + 1, store_at hg dt, hx, rfl⟩
/-- new entries are put at a; where they stand too close, they are laid anew -/
theorem lay_tail {f : Bool → Sem Unit} (nothing : ∀ (b : Bool) (s1 : Shared) (R : Unit → Shared → Prop), R () s1 → wpAny (model P w) A (f b) R E s1) {o : Obj} {ep : Nat} (hg : s.heap.get? a = some o) (hx : o.ExactSet) (dt : o.data = .set es ep t)
    {es1 : Ents} {t1 : SetTable} (small : es1.size < scanBound) (fit : t1.fits es1.size = true) (rise : Ris t1.place.toList) (led : w.params.followText "set-order" = true ∨ t1.led = true) (txt : ∀ e ∈ es1.toList, ∃ x tk, e = (hashStr w x, Value.str x tk))
    {dummy : Bool} {R : Option Bool → Shared → Prop} (fin : ∀ (h' : Heap) (es2 : Ents) (t2 : SetTable), Heap.SameBut a s.heap h' → Laid w h' a es2 t2 → es2.toList.Perm es1.toList → R (some true) { s with heap := h' }) :
    wpAny (model P w) A (do
      storeSet a es1 t1
      if (!dummy && t1.tooFull) = true then do
          f (relayAll t1 es1 (SetTable.grown es1.size)).2.2
          storeSet a (relayAll t1 es1 (SetTable.grown es1.size)).1 (relayAll t1 es1 (SetTable.grown es1.size)).2.1
          pure (some true)
        else pure (some true)) R E s := by
  obtain ⟨o1, ep1, g1, x1, d1⟩ := put_there (es1 := es1) (t1 := t1) hg hx dt
  have same1 : Heap.SameBut a s.heap (s.heap.update a (Obj.putSet es1 t1)) := Heap.SameBut.update _ _ _
  refine wpAny_bind (wpAny_storeSet_of hg dt ?_ (fits_of_scanBound small))
  by_cases full : (!dummy && t1.tooFull) = true
  · rw [if_pos full]
    have p2 := relayAll_perm t1 es1 (SetTable.grown es1.size)
    have l2 : (relayAll t1 es1 (SetTable.grown es1.size)).1.size = es1.size := by
      have := p2.length_eq
      simpa using this
    have small2 : (relayAll t1 es1 (SetTable.grown es1.size)).1.size < scanBound := by rw [l2]; exact small
    obtain ⟨o2, ep2, g2, x2, d2⟩ := put_there (s := { s with heap := s.heap.update a (Obj.putSet es1 t1) }) (es1 := (relayAll t1 es1 (SetTable.grown es1.size)).1) (t1 := (relayAll t1 es1 (SetTable.grown es1.size)).2.1) g1 x1 d1
    refine wpAny_bind (nothing _ _ _ (wpAny_bind (wpAny_storeSet_of (s := { s with heap := s.heap.update a (Obj.putSet es1 t1) }) g1 d1 ?_ (fits_of_scanBound small2))))
    refine wpAny_pure (fin _ _ _ (same1.trans (Heap.SameBut.update _ _ _)) ⟨⟨o2, ep2, g2, x2, d2⟩, small2, relayAll_fits _ _ _, relayAll_ris _ _ _, ?_, fun e he => txt e (p2.mem_iff.mp he)⟩ p2)
    exact led.imp id fun z => by rw [relayAll_led]; exact z
  · rw [if_neg full]
    exact wpAny_pure (fin _ _ _ same1 ⟨⟨o1, ep1, g1, x1, d1⟩, small, fit, rise, led, txt⟩ (.refl _))
theorem gave_nothing (b : Bool) {s1 : Shared} {R : Unit → Shared → Prop} (q : R () s1) : wpAny (model P w) A (match b with | true => rule "set.scan.the-table-gave-way" | false => pure ()) R E s1 := by
  cases b
  · exact wpAny_pure q
  · exact wpAny_rule q
/-- a text is put in -/
theorem laid_add {x : Str} {tk : Tok} {Q : Bool → Shared → Prop} (L : Laid w s.heap a es t) (room : es.size + 1 < scanBound)
    (fin : ∀ (b : Bool) (h' : Heap) (es2 : Ents) (t2 : SetTable), Heap.SameBut a s.heap h' → Laid w h' a es2 t2 → (x ∈ mem es ∧ (mem es2).Perm (mem es) ∨ x ∉ mem es ∧ (mem es2).Perm (x :: mem es)) → es2.size ≤ es.size + 1 → Q b { s with heap := h' }) :
    wpAny (model P w) A (setAddHashed a (.str x tk) ((PySem.strKind P w).hash x)) Q E s := by
  obtain ⟨o, ep, hg, hx, dt⟩ := L.ob
  have key : (PySem.strKind P w).is x (.str x tk) = true := PySem.strKind_is P w x tk
  have scan : (Value.str x tk).scannable = true := rfl
  have el := L.elems (P := P)
  unfold setAddHashed setAddHashedIn
  refine wpAny_holding (wpAny_bind (wpAny_setState_of hg dt L.fit ?_))
  simp only []
  rw [byScan_of scan L.small el, if_pos rfl]
  unfold setAddByScan
  refine wpAny_bind (wpAny_bind (wpAny_rule (wpAny_bind (wpAny_setScan_of key hg dt L.fit el ?_))))
  cases found : es.toList.findIdx? fun e => (PySem.strKind P w).is x e.2 with
  | some j =>
    obtain ⟨hj, here, _⟩ := List.findIdx?_eq_some_iff_getElem.mp found
    have inn : x ∈ mem es := List.mem_map.mpr ⟨_, List.getElem_mem hj, (L.is (P := P) (List.getElem_mem hj) x).mp here⟩
    exact wpAny_pure (wpAny_pure (fin false _ es t (Heap.SameBut.refl a s.heap) L (.inl ⟨inn, .refl _⟩) (Nat.le_succ _)))
  | none =>
    have out : x ∉ mem es := fun z => by
      obtain ⟨e, he, q⟩ := List.mem_map.mp z
      have := List.findIdx?_eq_none_iff.mp found e he
      rw [(L.is (P := P) he x).mpr q] at this
      cases this
    have p1 := layNew_perm t es ((PySem.strKind P w).hash x) (.str x tk)
    have f1 := layNew_fits t es ((PySem.strKind P w).hash x) (.str x tk)
    have r1 := layNew_ris t es ((PySem.strKind P w).hash x) (.str x tk) L.rise
    have l1 := layNew_led t es ((PySem.strKind P w).hash x) (.str x tk)
    simp only []
    generalize layNew t es ((PySem.strKind P w).hash x) (.str x tk) = Z at p1 f1 r1 l1 ⊢
    obtain ⟨es1, t1, dummy, gave⟩ := Z
    simp only [Array.toList_push] at p1 f1 r1 l1 ⊢
    have pc : es1.toList.Perm ((hashStr w x, Value.str x tk) :: es.toList) := p1.trans (List.perm_append_singleton _ _)
    have sz : es1.size = es.size + 1 := by
      have := pc.length_eq
      simpa using this
    have tx : ∀ e ∈ es1.toList, ∃ y tk, e = (hashStr w y, Value.str y tk) := fun e he => by
      rcases List.mem_cons.mp (pc.mem_iff.mp he) with z | z
      · exact ⟨x, tk, z⟩
      · exact L.txt e z
    have ld : w.params.followText "set-order" = true ∨ t1.led = true := L.led.imp id fun z => l1.trans z
    have small1 : es1.size < scanBound := by omega
    have done : ∀ (h' : Heap) (es2 : Ents) (t2 : SetTable), Heap.SameBut a s.heap h' → Laid w h' a es2 t2 → es2.toList.Perm es1.toList → Q true { s with heap := h' } := fun h' es2 t2 sb L2' p2 => by
      refine fin true h' es2 t2 sb L2' (.inr ⟨out, ?_⟩) ?_
      · exact (p2.trans pc).map fun e => vtx e.2
      · have := p2.length_eq
        simp only [Array.length_toList] at this
        omega
    refine wpAny_bind (gave_nothing _ ?_)
    split
    · refine wpAny_bind ?_
      rw [hashByValue_scannable 8 scan]
      refine wpAny_pure (lay_tail (fun b s1 R q => by cases b <;> first | exact wpAny_pure q | exact wpAny_rule q) hg hx dt small1 ?_ ?_ ?_ tx fun h' es2 t2 sb L2' p2 => wpAny_pure (done h' es2 t2 sb L2' p2))
      · first | (split <;> first | exact f1 | exact SetTable.fits_plain_off f1) | exact f1
      · first | (split <;> exact r1) | exact r1
      · first | (split <;> exact ld) | exact ld
    · refine wpAny_bind (wpAny_pure ?_)
      simp only [if_true]
      exact lay_tail (fun b s1 R q => by cases b <;> first | exact wpAny_pure q | exact wpAny_rule q) hg hx dt small1 f1 r1 ld tx fun h' es2 t2 sb L2' p2 => wpAny_pure (done h' es2 t2 sb L2' p2)
/-- the first i texts stand in the set -/
def Got (xs : List Str) (i : Nat) (es : Ents) : Prop := (mem es).Nodup ∧ (∀ y, y ∈ mem es ↔ y ∈ xs.take i) ∧ es.size ≤ i
theorem Got.step {xs : List Str} {i : Nat} {es es2 : Ents} {x : Str} (g : Got xs i es) (hx : xs[i]? = some x) (h : x ∈ mem es ∧ (mem es2).Perm (mem es) ∨ x ∉ mem es ∧ (mem es2).Perm (x :: mem es)) (z : es2.size ≤ es.size + 1) : Got xs (i + 1) es2 := by
  obtain ⟨g1, g2, g3⟩ := g
  have tk : xs.take (i + 1) = xs.take i ++ [x] := by rw [List.take_add_one, hx]; rfl
  refine ⟨?_, fun y => ?_, by omega⟩
  · rcases h with ⟨_, p⟩ | ⟨n, p⟩
    · exact p.nodup_iff.mpr g1
    · exact p.nodup_iff.mpr (List.nodup_cons.mpr ⟨n, g1⟩)
  · rw [tk, List.mem_append, ← g2 y, List.mem_singleton]
    rcases h with ⟨k, p⟩ | ⟨_, p⟩
    · rw [p.mem_iff]
      exact ⟨.inl, fun q => q.elim id fun e => e ▸ k⟩
    · rw [p.mem_iff, List.mem_cons]
      exact Or.comm
/-- the list's texts are put in, one by one -/
theorem puts_in {it : Addr} {fp wr : List Addr} {G : Array GenState → Array GenState → Prop} {n : Nat} {Pv : Nat → Value → Prop} {Sf : Nat → Shared → Prop} {R : Result → Shared → Prop}
    (W : WalksS P w A.in1 it fp wr G n Pv Sf) (apart : a ∉ fp) (xs : List Str) (len : n = xs.length) (few : xs.length ≤ 60) (vals : ∀ i v, Pv i v → ∃ x tk, xs[i]? = some x ∧ v = .str x tk) :
    ∀ (left i : Nat) (s : Shared) (es : Ents) (t : SetTable), n - i = left → i ≤ n → Sf i s → Laid w s.heap a es t → Got xs i es →
      (∀ (s' : Shared) (es2 : Ents) (t2 : SetTable), Moved (a :: wr) G s s' → Laid w s'.heap a es2 t2 → Got xs n es2 → R (.ok (.ret .none)) s') →
      codeAny (model P w) A (.builtin "set.update.loop" ⟨[.ref a, .ref it], []⟩) R s := by
  have aw : a ∉ wr := fun z => apart (W.sub _ z)
  have wider : ∀ b ∈ wr, b ∈ a :: wr := fun b z => .tail _ z
  have bound : (100 : Nat) < scanBound := by decide
  intro left
  induction left with
  | zero =>
    intro i s es t hl hi hs L g fin
    cases (show i = n by omega)
    refine codeAny_builtin F.entry_set_update_loop ?_
    rw [Around.under_plainId F.plain_set_update_loop _]
    refine wpAny_bind (W.done s _ _ hs fun s' mv => ?_)
    exact wpAny_pure (fin s' es t (mv.mono wider) (L.keep fun o e => mv.heap a o aw e) g)
  | succ left ih =>
    intro i s es t hl hi hs L g fin
    have lt : i < n := by omega
    refine codeAny_builtin F.entry_set_update_loop ?_
    rw [Around.under_plainId F.plain_set_update_loop _]
    refine wpAny_bind (W.item i s _ _ lt hs fun v s' pv hs' mv => ?_)
    obtain ⟨x, tk, hx, rfl⟩ := vals i v pv
    have L1 : Laid w s'.heap a es t := L.keep fun o e => mv.heap a o aw e
    refine wpAny_bind (wpAny_holding ?_)
    unfold setAdd
    refine wpAny_holding (wpAny_bind ((PySem.strKind P w).pyHash (k := x) (PySem.strKind_is _ _ _ _) ?_))
    refine laid_add (s := { s' with toks := s'.toks + 1 }) L1 (by have := g.2.2; omega) fun b h' es2 t2 sb L2' p z => ?_
    refine wpAny_pure ⟨plainId_quiet F.plain_set_update_loop _, ih (i + 1) _ es2 t2 (by omega) lt (W.frame _ s' _ _ hs' (Nat.le_succ _) fun c hc o e => ?_) L2' (g.step hx p z) fun s3 es3 t3 mv3 L3 g3 => fin s3 es3 t3 ?_ L3 g3⟩
    · rw [sb.2 c fun q => apart (q ▸ hc)]; exact e
    · refine Moved.trans W.gtrans ((mv.mono wider).then_heap (Nat.le_succ _) fun c o hc e => ?_) mv3
      rw [sb.2 c fun q => hc (q ▸ List.mem_cons_self)]; exact e
end
end Mi
/-! MiY: set(xs) of a list of texts; sorted(set(xs)). -/
namespace Mi
open PySem PySem.Spec L2 PyProof.Rows
/-- an empty set's object -/
abbrev none0 (w : World) : Obj := { cls := .type "set", dict := none, data := .set #[] 0 (.fresh 0 0 (!w.params.followText "set-order")) }
section
variable {P : Program} {w : World} {A : Around} {E : Value → Shared → Prop} {s : Shared}
theorem none0_laid {h : Heap} {a : Addr} (e : h.get? a = some (none0 w)) : Laid w h a #[] (.fresh 0 0 (!w.params.followText "set-order")) := by
  refine ⟨⟨_, 0, e, ⟨rfl, rfl, rfl⟩, rfl⟩, by decide, by rfl, List.Pairwise.nil, ?_, fun e he => by simp at he⟩
  show _ ∨ (!w.params.followText "set-order") = true
  cases w.params.followText "set-order"
  · exact .inr rfl
  · exact .inl rfl
theorem got0 (xs : List Str) : Got xs 0 #[] := ⟨List.nodup_nil, fun y => by simp [mem], Nat.le_refl _⟩
theorem strs_at : ∀ {vs : List Value} {xs : List Str}, StrsAre vs xs → ∀ {i : Nat} {v : Value}, vs[i]? = some v → ∃ x tk, xs[i]? = some x ∧ v = .str x tk
  | _, _, .nil, i, v, e => by simp at e
  | _, _, .cons x tk r, 0, v, e => by simp at e; exact ⟨x, tk, rfl, e.symm⟩
  | _, _, .cons x tk r, i + 1, v, e => by
    obtain ⟨y, k, h1, h2⟩ := strs_at r (i := i) (by simpa using e)
    exact ⟨y, k, by simpa using h1, h2⟩
/-- what set(xs) leaves -/
def SetLeft (w : World) (s : Shared) (xs : List Str) (h' : Heap) : Prop := ∃ es t, Laid w h' s.heap.objs.size es t ∧ Got xs xs.length es ∧ ∀ b o, s.heap.get? b = some o → h'.get? b = some o
theorem set_of {l : Addr} {its : Array Value} (xs : List Str) {Q : Value → Shared → Prop} (calm : A.handled = none) (isl : s.heap.IsList l its) (vals : StrsAre its.toList xs) (few : xs.length ≤ 60)
    (q : ∀ (h' : Heap) (k : Nat), SetLeft w s xs h' → Q (.ref s.heap.objs.size) { s with heap := h', toks := k }) : wpAny (model P w) A (call (.type "set") [.ref l]) Q E s := by
  have nIts : its.size = xs.length := by
    have := StrsAre.length vals
    simpa using this
  obtain ⟨cR, tR, hR⟩ := F.called_set.mro
  have md := F.called_set.made
  have sb := F.called_set.sub
  refine wpAny_call (codeAny_of_tree ?_)
  show wpAny _ _ (callAny (.type "set") _) _ _ _
  refine wpAny_pure ⟨Code.quiet_builtin _ (by decide +kernel), codeAny_builtin F.entry_type_call ?_⟩
  rw [Around.under_plain (weight_type_call_type "set" [.ref l] []) rfl]
  have nt := F.called_set.notType
  have cc := F.called_set.canCreate
  have tc := F.typeCall_set_1 (.ref l)
  repeat (any_goals (first | assumption | wp_step))
  refine codeAny_mono (code_set_led1 (.ref l) (E := E) (Q₁ := fun v s1 => v = .ref s.heap.objs.size ∧ s1 = { s with heap := s.heap.push (none0 w) }) ⟨rfl, rfl⟩) fun r s1 hr => ?_
  match r, hr with
  | .error e, hr => exact hr
  | .ok (.ret v), hr =>
    obtain ⟨rfl, rfl⟩ := hr
    have at0 : (s.heap.push (none0 w)).get? s.heap.objs.size = some (none0 w) := Heap.get?_push_size _ rfl
    have ty : Shared.TypeIs { s with heap := s.heap.push (none0 w) } (.ref s.heap.objs.size) "set" := ⟨_, at0, rfl⟩
    have il := F.called_set.init.lookup
    have ib := F.called_set.init.bind (.ref s.heap.objs.size)
    repeat (any_goals (first | assumption | wp_step))
    refine codeAny_mono (codeAny_call_builtin (R := wants (fun r s2 => r = .none ∧ ∃ h' k, s2 = { s with heap := h', toks := k } ∧ SetLeft w s xs h') E) F.called_set.init.plain F.entry_set_init (check_set_init_1 ty ?_)) fun r2 s2 hr2 => ?_
    · obtain ⟨⟨c1, c2, c3, c4⟩, g1, g2, g3, g4⟩ := isl
      simp only at g2 g4
      subst g2 g4
      have at1 : (s.heap.push (none0 w)).get? l = some { cls := .type "list", dict := c2, data := .seq its g3, slots := c4 } := Heap.get?_push_of_some _ g1
      have sls := F.sub_list_set
      have slf := F.sub_list_frozenset
      have nd : (Value.type "list" == Value.type "dict") = false := by decide
      have isl1 : (s.heap.push (none0 w)).IsList l its := ⟨_, at1, rfl, g3, rfl⟩
      unfold Builtin.«set.__init__» noKeywords Builtin.Frozenset.updateFrom
      generalize pe : pyIter = PI
      wp_walk
      subst pe
      refine wpAny_pyIter_list isl1 (wpAny_bind (wpAny_runValue ?_))
      have below : l < s.heap.objs.size := Heap.lt_size g1
      have calm3 : A.in1.in1.in1.handled = none := by simp [calm]
      have size1 : (s.heap.push (none0 w)).objs.size = s.heap.objs.size + 1 := Heap.size_push ..
      have ne1 : l ≠ (s.heap.push (none0 w)).objs.size := by rw [size1]; exact Nat.ne_of_lt (Nat.lt_succ_of_lt below)
      have apart : s.heap.objs.size ∉ [(s.heap.push (none0 w)).objs.size, l] := by
        simp only [List.mem_cons, List.not_mem_nil, or_false, not_or]
        exact ⟨by rw [size1]; exact Nat.ne_of_lt (Nat.lt_succ_self _), Nat.ne_of_gt below⟩
      have val : ∀ (i : Nat) (v : Value), its[i]? = some v → ∃ x tk, xs[i]? = some x ∧ v = .str x tk := fun i v hv => by
        exact strs_at vals (by rw [Array.getElem?_toList]; exact hv)
      have at2 : ((s.heap.push (none0 w)).push { cls := .type "list_iterator", data := .fields #[.ref l, .int 0 0] }).get? s.heap.objs.size = some (none0 w) := Heap.get?_push_of_some _ at0
      refine puts_in ((Walks.list calm3 _ l ne1 its).toS) apart xs nIts few val (its.size - 0) 0 _ #[] _ rfl (Nat.zero_le _) ⟨⟨_, Heap.get?_push_size _ rfl, rfl, rfl⟩, isl1.push _⟩ (none0_laid at2) (got0 xs) fun s3 es t mv L g => ?_
      obtain ⟨h3, g3', d3, k3, o3⟩ := s3
      cases (show g3' = s.gens from mv.gens)
      cases (show d3 = s.drawn from mv.drawn)
      cases (show o3 = s.os from mv.os)
      rw [nIts] at g
      refine wpAny_pure (wpAny_pure ⟨rfl, h3, k3, rfl, es, t, L, g, fun b o e => ?_⟩)
      have lb : b < s.heap.objs.size := Heap.lt_size e
      refine mv.heap b o ?_ (Heap.get?_push_of_some _ (Heap.get?_push_of_some _ e))
      simp only [List.mem_cons, List.not_mem_nil, or_false, not_or]
      exact ⟨Nat.ne_of_lt lb, by rw [size1]; exact Nat.ne_of_lt (Nat.lt_succ_of_lt lb)⟩
    · match r2, hr2 with
      | .error e, hr2 => exact hr2
      | .ok (.ret v), hr2 =>
        obtain ⟨rfl, h', k, rfl, L⟩ := hr2
        repeat (any_goals (first | assumption | wp_step))
        exact q _ _ L
/-- sorted(that set) -/
theorem sorted_of {a : Addr} {es : Ents} {t : SetTable} {Q : Value → Shared → Prop} (L : Laid w s.heap a es t) (calm : A.handled = none) (room : A.units + 3 < cLine) (few : es.size ≤ 60)
    (q : ∀ (s' : Shared) (p : Addr) (out : List Value) (c : Nat), (∀ b o, s.heap.get? b = some o → s'.heap.get? b = some o) → s'.gens = s.gens → s'.os = s.os → s.heap.objs.size ≤ p → s'.heap.get? p = some (seqObj "list" out.toArray c) →
      (∃ zs : List Str, zs.Perm (mem es) ∧ PySem.W.EachIs (fun v d => ∃ x tk, d = D.str x ∧ v = Value.str x tk) out (sortD (zs.map D.str))) → Q (.ref p) s') : wpAny (model P w) A (call (.builtin "sorted") [.ref a]) Q E s := by
  obtain ⟨o, ep, hg, hx, dt⟩ := L.ob
  refine Calls.call_function_entry kind_sorted plain_sorted entry_sorted (args_sorted1 _) ?_
  unfold Builtin.«sorted»
  refine wpAny_bind (m := checkCount "sorted" 1 1 _) (wpAny_pure (wpAny_bind (collect_set (A := A.in1) calm ⟨o, hg, hx.1, dt⟩ L.fit L.small L.rise L.led fun s1 vs keep1 gr gn osn pm => ?_)))
  have lenV : vs.length = es.size := by
    have := pm.length_eq
    simpa using this
  obtain ⟨zs, ez, pz⟩ : ∃ zs : List Str, PySem.W.EachIs (fun v d => ∃ x tk, d = D.str x ∧ v = Value.str x tk) vs (zs.map D.str) ∧ zs = vs.map vtx := by
    have all : ∀ v ∈ vs, ∃ x tk, v = Value.str x tk := fun v hv => by
      obtain ⟨e, he, rfl⟩ := List.mem_map.mp (pm.mem_iff.mp hv)
      obtain ⟨x, tk, rfl⟩ := L.txt e he
      exact ⟨x, tk, rfl⟩
    refine ⟨_, ?_, rfl⟩
    clear pm lenV
    induction vs with
    | nil => exact .nil
    | cons v vs ih =>
      obtain ⟨x, tk, rfl⟩ := all v (.head _)
      exact .cons ⟨x, tk, rfl, rfl⟩ (ih fun u hu => all u (.tail _ hu))
  have perm : zs.Perm (mem es) := by
    rw [pz]
    have := pm.map vtx
    rw [List.map_map] at this
    exact this
  have fits : vs.length ≤ sizeLine := by rw [lenV, sizeLine_eq]; omega
  refine wpAny_bind (wpAny_newList ?_ fits)
  have at1 : (s1.heap.push (seqObj "list" vs.toArray 0)).get? s1.heap.objs.size = some (seqObj "list" vs.toArray 0) := Heap.get?_push_size _ rfl
  have rd : PySem.W.EachIs (fun v d => ∃ as, Reads (s1.heap.push (seqObj "list" vs.toArray 0)) v (toPy d) as ∧ s1.heap.objs.size ∉ as) vs (zs.map D.str) := ez.mono fun v d ⟨x, tk, e1, e2⟩ => by
    subst e1 e2
    exact ⟨[], Reads.str x tk, by simp⟩
  refine wpAny_bind (wpAny_holding (PySem.W.list_sort_data (s := { s1 with heap := s1.heap.push (seqObj "list" vs.toArray 0) }) (enc := toPy) at1 ez rd ?_ ?_ ?_ ?_ fun out len eo => ?_))
  · intro d hd d' hd'
    obtain ⟨_, h1, rfl⟩ := List.mem_map.mp hd
    obtain ⟨_, h2, rfl⟩ := List.mem_map.mp hd'
    obtain ⟨x, _, rfl⟩ := List.mem_map.mp h1
    obtain ⟨y, _, rfl⟩ := List.mem_map.mp h2
    rfl
  · refine .inr fun d hd => ?_
    obtain ⟨_, h1, rfl⟩ := List.mem_map.mp hd
    obtain ⟨x, _, rfl⟩ := List.mem_map.mp h1
    exact ⟨(fun z => by cases z), fun _ z => by cases z⟩
  · rw [← ez.length]; exact fits
  · intro b hb
    obtain ⟨x, _, rfl⟩ := List.mem_map.mp hb
    show A.units + 1 + 1 + 0 < cLine
    omega
  · obtain ⟨c, hc⟩ := sortedHeap_at (vs := vs) (out := out.toArray) at1
    refine wpAny_pure ⟨_, rfl, q _ s1.heap.objs.size out c (fun b u e => ?_) gn osn gr hc ⟨zs, perm, eo⟩⟩
    have e1 := keep1 b u e
    have lb := Heap.lt_size e1
    show (sortedHeap (s1.heap.push (seqObj "list" vs.toArray 0)) s1.heap.objs.size vs out.toArray).get? b = some u
    rw [sortedHeap_old (Nat.ne_of_lt lb) (by rw [size_push']; exact Nat.lt_succ_of_lt lb)]
    exact Heap.get?_push_of_some _ e1
end
/-! ### as rules -/
theorem strs_vals : ∀ {zs : List Str} {us : List Value}, Vals (zs.map V.str) us → StrsAre us zs
  | [], _, .nil => .nil
  | z :: zs, _, .cons r t => by
    obtain ⟨tk, rfl⟩ := r
    exact .cons z tk (strs_vals t)
/-- a set of texts, as its table stands -/
def SetX (w : World) (a : Addr) (es : Ents) : HO := .ext fun h => ∃ t, Laid w h a es t
theorem setX_ok {P : Program} {w : World} {H : Hp} {h : Heap} {a : Addr} {es : Ents} {t : SetTable} (L : Laid w h a es t) : ObjOk P w H h a (SetX w a es) := by
  obtain ⟨o, _, e, _⟩ := L.ob
  exact ⟨⟨t, L⟩, ⟨o, e⟩, fun _ _ ⟨t, L⟩ k => ⟨t, L.keep k⟩⟩
section
variable {X : Cx}
def rSetTxt (K : PySem.W.Frag) (w : World) : List V → Hp → VK → Prop := fun vs H Q => ∃ (l : Addr) (zs : List Str), vs = [.ref l] ∧ SqL K H l (zs.map V.str) ∧ zs.length ≤ 60 ∧ ∀ (p : Addr) (es : Ents), H p = none → Got zs zs.length es → Q (.ref p) (upd H p (SetX w p es))
theorem cr_set_txt (hc : X.calm = true) : CallR X (.type "set") (rSetTxt X.K X.w) := by
  intro pins s σ H xs us Q I r h
  obtain ⟨l, zs, rfl, hl, few, q⟩ := h
  rw [Vals.ref1 r]
  obtain ⟨its, rv, pl, hz⟩ := I.list hl
  have sa : StrsAre its.toArray.toList zs := by simpa using strs_vals rv
  refine set_of (P := X.prog) (w := X.w) zs (I.ok.hd hc) pl.isList sa few fun h' k L => ?_
  obtain ⟨es, t, L, g, kp⟩ := L
  exact ⟨.ref s.heap.objs.size, upd H s.heap.objs.size (SetX X.w s.heap.objs.size es), I.laid (t' := k) kp (Nat.le_refl _) (setX_ok L), rfl, q _ es (I.hok.fresh (Nat.le_refl _)) g⟩
def rSortX (w : World) : List V → Hp → VK → Prop := fun vs H Q => ∃ (p : Addr) (es : Ents), vs = [.ref p] ∧ H p = some (SetX w p es) ∧ es.size ≤ 60 ∧ ∀ (p' : Addr) (ts ws : List Str), ts.Perm (mem es) → sortD (ts.map D.str) = ws.map D.str → H p' = none → Q (.ref p') (upd H p' (.lst (ws.map V.str)))
theorem out_strs : ∀ {out : List Value} {ds : List D}, PySem.W.EachIs (fun v d => ∃ x tk, d = D.str x ∧ v = Value.str x tk) out ds → ∃ ws : List Str, ds = ws.map D.str ∧ Vals (ws.map V.str) out
  | _, _, .nil => ⟨[], rfl, .nil⟩
  | _, _, .cons ⟨x, tk, e1, e2⟩ t => by
    obtain ⟨ws, rfl, r⟩ := out_strs t
    subst e1 e2
    exact ⟨x :: ws, rfl, .cons ⟨tk, rfl⟩ r⟩
theorem cr_sorted_set (hc : X.calm = true) (hu : X.A.units + 64 < cLine) : CallR X (.builtin "sorted") (rSortX X.w) := by
  intro pins s σ H vs us Q I r h
  obtain ⟨a, es, rfl, ha, few, q⟩ := h
  obtain ⟨t, L⟩ := (show ∃ t, Laid X.w s.heap a es t from (I.hok a _ ha).1)
  rw [Vals.ref1 r]
  refine sorted_of (P := X.prog) L (I.ok.hd hc) (by omega) few fun s' p out c kp gn osn new at1 back => ?_
  obtain ⟨ts, hts, eo⟩ := back
  obtain ⟨ws, e, rv⟩ := out_strs eo
  have len : ws.length ≤ 60 := by
    have h1 := congrArg List.length e
    have h2 := hts.length_eq
    simp [sortD, mem] at h1 h2
    omega
  have hn : H p = none := I.hok.fresh new
  have J : L2.Inv X pins σ (upd H p (.lst (ws.map V.str))) { s with heap := s'.heap, gens := s'.gens, drawn := s'.drawn, toks := s'.toks } :=
    I.call (ch := []) (Un.laid kp new hn) (I.hok.laid kp new ⟨by rw [List.length_map, sizeLine_eq]; omega, out, c, rv, at1⟩) (by rw [gn]; exact I.bare) (fun _ z => nomatch z)
  have es' : s' = { s with heap := s'.heap, gens := s'.gens, drawn := s'.drawn, toks := s'.toks } := by
    obtain ⟨_, _, _, _, _⟩ := s'
    cases osn
    rfl
  rw [es']
  exact ⟨.ref p, _, J, rfl, q p ts ws hts e hn⟩
end
/-! ### the order of texts hangs on what they are alone -/
theorem once_mem {z : Str} : ∀ {zs : List Str}, z ∈ once zs ↔ z ∈ zs
  | [] => Iff.rfl
  | x :: zs => by
    have ih := once_mem (z := z) (zs := zs)
    show z ∈ (if x ∈ once zs then once zs else x :: once zs) ↔ _
    split
    · next h => rw [ih, List.mem_cons]; exact ⟨.inr, fun q => q.elim (fun e => by subst e; exact once_mem.mp h) id⟩
    · rw [List.mem_cons, List.mem_cons, ih]
theorem once_nodup : ∀ zs : List Str, (once zs).Nodup
  | [] => List.nodup_nil
  | x :: zs => by
    show (if x ∈ once zs then once zs else x :: once zs).Nodup
    split
    · exact once_nodup zs
    · next h => exact List.nodup_cons.mpr ⟨h, once_nodup zs⟩
theorem once_perm {zs : List Str} {es : Ents} (g : Got zs zs.length es) : (once zs).Perm (mem es) :=
  (List.perm_ext_iff_of_nodup (once_nodup zs) g.1).mpr fun y => by rw [once_mem, g.2.1, List.take_length]
theorem le_txt : PySem.W.dataLe false (fun z : Str => PyData.str z) = fun a b => decide (a.cps.toList ≤ b.cps.toList) := PySem.W.dataLe_str id
theorem sort_perm {xs ys : List Str} (h : xs.Perm ys) : sortD (xs.map D.str) = sortD (ys.map D.str) := by
  have e : ∀ zs : List Str, sortD (zs.map D.str) = (zs.mergeSort fun a b => decide (a.cps.toList ≤ b.cps.toList)).map D.str := fun zs => by
    unfold sortD
    rw [← le_txt]
    exact (List.map_mergeSort (f := D.str) (r := PySem.W.dataLe false fun z : Str => PyData.str z) (s := PySem.W.dataLe false toPy) (l := zs) (fun _ _ _ _ => rfl)).symm
  rw [e, e]
  congr 1
  have tr : ∀ a b c : Str, decide (a.cps.toList ≤ b.cps.toList) = true → decide (b.cps.toList ≤ c.cps.toList) = true → decide (a.cps.toList ≤ c.cps.toList) = true := fun a b c h1 h2 => decide_eq_true (List.le_trans (of_decide_eq_true h1) (of_decide_eq_true h2))
  have tot : ∀ a b : Str, (decide (a.cps.toList ≤ b.cps.toList) || decide (b.cps.toList ≤ a.cps.toList)) = true := fun a b => by
    rcases List.le_total a.cps.toList b.cps.toList with h | h <;> simp [h]
  refine List.Perm.eq_of_pairwise (le := fun a b : Str => decide (a.cps.toList ≤ b.cps.toList) = true) (fun a b _ _ h1 h2 => ?_) (List.pairwise_mergeSort tr tot _) (List.pairwise_mergeSort tr tot _) (((List.mergeSort_perm _ _).trans h).trans (List.mergeSort_perm _ _).symm)
  have e1 := List.le_antisymm (of_decide_eq_true h1) (of_decide_eq_true h2)
  cases a; cases b
  simp only [Str.mk.injEq]
  exact Array.toList_inj.mp e1
end Mi
/-! MiV: sorted(d) of a dict's keys; dict(pairs); a tuple, a dict held against the empty one. -/
namespace Mi
open PySem PySem.Spec L2 PyProof.Rows
section
variable {X : Cx} {pins : List (Addr × Obj)} {σ : L2.St} {H : Hp} {s : Shared} {m : Pl}
theorem key_val {P : Program} {w : World} {k : Key} {v : Value} (h : (mixKind P w).is k v = true) : L2.RelV (kV k) v ∧ ∀ h : Heap, Reads h v (toPy (kD k)) [] := by
  rcases keyIs_shape (show keyIs k v = true from h) with ⟨i, t, rfl, rfl⟩ | ⟨x, t, rfl, rfl⟩
  · exact ⟨⟨t, rfl⟩, fun _ => .int i t⟩
  · exact ⟨⟨t, rfl⟩, fun _ => .str x t⟩
theorem key_rd {K : PySem.W.Frag} (k : Key) : RD K H m (kD k) (kV k) := by
  cases k
  · exact .int _
  · exact .str _
theorem each_list {P : Program} {w : World} : ∀ {vs : List (Key × Value)} {us : List Value}, us.length = vs.length → (∀ (j : Nat) (v : Value), us[j]? = some v → ∃ k x, vs[j]? = some (k, x) ∧ (mixKind P w).is k v = true) →
    PySem.W.EachIs (fun v d => ∃ k : Key, d = kD k ∧ (mixKind P w).is k v = true) us (vs.map fun p => kD p.1)
  | [], [], _, _ => .nil
  | p :: vs, u :: us, h1, h2 => by
    obtain ⟨k, x, e, q⟩ := h2 0 u rfl
    simp at e
    refine .cons ⟨k, by rw [e], q⟩ (each_list (by simpa using h1) fun j v e => ?_)
    obtain ⟨k, x, e1, e2⟩ := h2 (j + 1) v (by simpa using e)
    exact ⟨k, x, by simpa using e1, e2⟩
  | [], _ :: _, h, _ => by simp at h
  | _ :: _, [], h, _ => by simp at h
theorem each_keys {us : List Value} {ds : List D} {K : PySem.W.Frag} {P : Program} {w : World} (h : PySem.W.EachIs (fun v d => ∃ k : Key, d = kD k ∧ (mixKind P w).is k v = true) us ds) : ∃ vs, RDs K H m ds vs ∧ Vals vs us := by
  induction h with
  | nil => exact ⟨[], .nil, .nil⟩
  | cons r t ih =>
    obtain ⟨k, rfl, q⟩ := r
    obtain ⟨vs, h1, h2⟩ := ih
    exact ⟨kV k :: vs, .cons (key_rd k) h1, .cons (key_val q).1 h2⟩
/-- sorted(d): the keys, in order -/
theorem srt_dict (hc : X.calm = true) (hu : X.A.units + 64 < cLine) {a : Addr} {ws : List (Key × V)} {kvs : List (Key × D)} {Q : VK} (I : L2.Inv X pins σ H s) (ha : H a = some (.dK ws)) (kr : KVR X.K H m kvs ws) (hk : sortOk (kvs.map fun p => kD p.1) = true)
    (q : ∀ vs, RDs X.K H m (sortD (kvs.map fun p => kD p.1)) vs → vs.length ≤ sizeLine ∧ ∀ p, H p = none → Q (.ref p) (upd H p (.lst vs))) : wpAny (model X.prog X.w) X.A (call (.builtin "sorted") [.ref a]) (EP X pins σ Q) X.xe s := by
  obtain ⟨z, low, us, kv, dd⟩ := dk_rd I.hok (.inl ha)
  obtain ⟨ep, da⟩ := dd.dictAt
  obtain ⟨h1, h2, h3, h4, h5⟩ := sortOk_p hk
  have ek : (kvs.map fun p => kD p.1) = us.map fun p => kD p.1 := by
    have e1 := kr.1
    have e2 := kv.keys
    have : kvs.map (·.1) = us.map (·.1) := by rw [← e1, e2]
    calc (kvs.map fun p => kD p.1) = (kvs.map (·.1)).map kD := by rw [List.map_map]; rfl
      _ = (us.map (·.1)).map kD := by rw [this]
      _ = _ := by rw [List.map_map]; rfl
  have len : us.length ≤ sizeLine := by
    have := congrArg List.length ek
    simp only [List.length_map] at this h5
    omega
  refine Calls.call_function_entry kind_sorted plain_sorted entry_sorted (args_sorted1 _) ?_
  unfold Builtin.«sorted»
  refine wpAny_bind (m := checkCount "sorted" 1 1 _) (wpAny_pure (wpAny_bind (PySem.W.kdu_collect (A := X.A.in1) (PySem.W.kdl_dict (knd := mixKind X.prog X.w) low) (I.ok.hd hc) da len fun h' tk acc keep items => ?_)))
  have each := each_list (P := X.prog) (w := X.w) (us := acc.toList) (by rw [Array.length_toList]; exact items.1) fun j v e => items.2 j v (by rw [← Array.getElem?_toList]; exact e)
  have lenV : acc.toList.length = us.length := by rw [Array.length_toList]; exact items.1
  have fits : acc.toList.length ≤ sizeLine := by rw [lenV]; exact len
  refine wpAny_bind (wpAny_newList ?_ fits)
  have at1 : (h'.push (seqObj "list" acc.toList.toArray 0)).get? h'.objs.size = some (seqObj "list" acc.toList.toArray 0) := Heap.get?_push_size _ rfl
  refine wpAny_bind (wpAny_holding (PySem.W.list_sort_data (s := { s with heap := h'.push (seqObj "list" acc.toList.toArray 0), toks := tk }) (enc := toPy) at1 each (each.mono fun v d x => by
    obtain ⟨k, rfl, r⟩ := x
    exact ⟨[], (key_val r).2 _, by simp⟩) ?_ ?_ ?_ ?_ fun out ho eo => ?_))
  · rw [← ek]; exact h2
  · rw [← ek]; exact h3
  · rw [← ek]; exact h5
  · intro b hb
    rw [← ek] at hb
    show X.A.units + 1 + 1 + _ < cLine
    rw [dep_py]
    have := deps_mem hb
    omega
  · rw [← ek] at eo
    obtain ⟨c, hc'⟩ := sortedHeap_at (vs := acc.toList) (out := out.toArray) at1
    obtain ⟨vs, w1, w2⟩ := each_keys (K := X.K) (H := H) (m := m) eo
    obtain ⟨q1, q2⟩ := q vs w1
    have kp : ∀ b u, s.heap.get? b = some u → (sortedHeap (h'.push (seqObj "list" acc.toList.toArray 0)) h'.objs.size acc.toList out.toArray).get? b = some u := fun b u e => by
      have e1 := keep b u e
      have lb := Heap.lt_size e1
      rw [sortedHeap_old (Nat.ne_of_lt lb) (by rw [size_push']; exact Nat.lt_succ_of_lt lb)]
      exact Heap.get?_push_of_some _ e1
    have nw : s.heap.get? h'.objs.size = none := by
      cases e0 : s.heap.get? h'.objs.size with
      | none => rfl
      | some o => exact absurd (Heap.lt_size (keep _ _ e0)) (Nat.lt_irrefl _)
    have hn := I.hok.gone nw
    exact wpAny_pure ⟨_, rfl, .ref h'.objs.size, upd H h'.objs.size (.lst vs), I.laidN (t' := tk) kp nw hn ⟨q1, out, c, w2, hc'⟩, rfl, q2 _ hn⟩
end
end Mi
/-! MiVT: dicts whose keys are tuples of numbers and texts: sorted(d), d.get(None), {k: v, ..}. -/
namespace Mi
open PySem PySem.Spec L2 PyProof.Rows
section
variable {X : Cx} {pins : List (Addr × Obj)} {σ : L2.St} {H : Hp} {s : Shared} {m : Pl}
theorem tk_readsAll {h : Heap} : ∀ {k : List Key} {its : List Value}, Vals (k.map kV) its → ReadsAll h its (toPys (k.map kD)) []
  | [], _, .nil => .nil
  | .inl i :: k, _, .cons r t => by
    obtain ⟨tk, rfl⟩ := (show ∃ t, _ = Value.int i t from r)
    exact .cons (as := []) (.int i tk) (tk_readsAll t)
  | .inr x :: k, _, .cons r t => by
    obtain ⟨tk, rfl⟩ := (show ∃ t, _ = Value.str x t from r)
    exact .cons (as := []) (.str x tk) (tk_readsAll t)
theorem keys_rd {K : PySem.W.Frag} : ∀ k : List Key, RDs K H m (k.map kD) (k.map kV)
  | [] => .nil
  | a :: k => .cons (key_rd a) (keys_rd k)
/-- a key's tuple -/
def StT (H : Hp) (v : Value) (d : D) : Prop := ∃ (k : List Key) (b : Addr), k ≠ [] ∧ d = tkD k ∧ v = .ref b ∧ H b = some (.tup (k.map kV))
theorem stT_rd {K : PySem.W.Frag} {v : Value} {d : D} (h : StT H v d) : ∃ x, RD K H m d x ∧ RelV x v := by
  obtain ⟨k, b, nk, rfl, rfl, e⟩ := h
  exact ⟨.ref b, .tup (SqT.of e) (fun _ => e) (fun z => absurd z (by
    cases k with
    | nil => exact absurd rfl nk
    | cons a k => cases a <;> simp [pairy, pairHd, kD])) (keys_rd k), rfl⟩
theorem stT_reads (I : L2.Inv X pins σ H s) {v : Value} {d : D} (h : StT H v d) : Reads s.heap v (toPy d) [] := by
  obtain ⟨k, b, _, rfl, rfl, e⟩ := h
  obtain ⟨_, its, r, o, h1, h2, n, h3⟩ := (show ObjOk X.prog X.w H s.heap b (.tup (k.map kV)) from I.hok b _ e)
  refine .tuple h1 h2 h3 ?_
  rw [List.toList_toArray]
  exact tk_readsAll r
theorem each_stT {kvs : List (List Key × V)} {xs : List (List Key × Addr × Value)} (r : KT H kvs xs) (nk : ∀ p ∈ kvs, p.1 ≠ []) : PySem.W.EachIs (StT H) (xs.map fun x => Value.ref x.2.1) (kvs.map fun p => tkD p.1) := by
  unfold KT at r
  induction r with
  | nil => exact .nil
  | cons h t ih => exact .cons ⟨_, _, nk _ (.head _), rfl, rfl, h.2.1⟩ (ih fun p hp => nk p (.tail _ hp))
theorem each_backT {K : PySem.W.Frag} {us : List Value} {ds : List D} (h : PySem.W.EachIs (StT H) us ds) : ∃ vs, RDs K H m ds vs ∧ Vals vs us := by
  induction h with
  | nil => exact ⟨[], .nil, .nil⟩
  | cons r t ih =>
    obtain ⟨x, h1, h2⟩ := stT_rd (K := K) (m := m) r
    obtain ⟨vs, w1, w2⟩ := ih
    exact ⟨x :: vs, .cons h1 w1, .cons h2 w2⟩
/-- sorted(d): the keys, in order -/
theorem srt_dictT (hc : X.calm = true) (hu : X.A.units + 64 < cLine) {a : Addr} {ws : List (List Key × V)} {kvs : List (List Key × D)} {Q : VK} (I : L2.Inv X pins σ H s) (ha : H a = some (.dT ws)) (kr : KVR X.K H m kvs ws) (hk : sortOk (kvs.map fun p => tkD p.1) = true) (nk : ∀ p ∈ kvs, p.1 ≠ [])
    (q : ∀ vs, RDs X.K H m (sortD (kvs.map fun p => tkD p.1)) vs → vs.length ≤ sizeLine ∧ ∀ p, H p = none → Q (.ref p) (upd H p (.lst vs))) : wpAny (model X.prog X.w) X.A (call (.builtin "sorted") [.ref a]) (EP X pins σ Q) X.xe s := by
  obtain ⟨z, low, ks, pr, o, es, ep, ho, hx, hdt, he, hn⟩ := (show ObjOk X.prog X.w H s.heap a (.dT ws) from I.hok a _ ha)
  obtain ⟨h1, h2, h3, h4, h5⟩ := sortOk_p hk
  have l1 : es.size = ks.length := size_of_entries he
  have l2 : ws.length = ks.length := Paired.length pr
  have ek : (kvs.map fun p => tkD p.1) = ws.map fun p => tkD p.1 := by
    calc (kvs.map fun p => tkD p.1) = (kvs.map (·.1)).map tkD := by rw [List.map_map]; rfl
      _ = (ws.map (·.1)).map tkD := by rw [kr.1]
      _ = _ := by rw [List.map_map]; rfl
  refine Calls.call_function_entry kind_sorted plain_sorted entry_sorted (args_sorted1 _) ?_
  unfold Builtin.«sorted»
  refine wpAny_bind (m := checkCount "sorted" 1 1 _) (wpAny_pure (wpAny_bind (PySem.W.kdu_collect (A := X.A.in1) (kdl_raw low hx hdt) (I.ok.hd hc) ho (by omega) fun h' tk acc' keep it => ?_)))
  have ea : acc'.toList = ks.map fun x => Value.ref x.2.1 := by
    have hl : acc'.toList.length = ks.length := by rw [Array.length_toList, it.1]; exact l1
    apply List.ext_getElem?
    intro j
    rw [List.getElem?_map]
    cases hj : acc'.toList[j]? with
    | none =>
      have h1 := List.getElem?_eq_none_iff.mp hj
      rw [List.getElem?_eq_none (by omega)]
      all_goals rfl
    | some v =>
      obtain ⟨en, hen, hv⟩ := it.2 j v (by rw [← Array.getElem?_toList]; exact hj)
      have qe := entry_at he j
      rw [hen] at qe
      cases hb : ks[j]? with
      | none =>
        rw [hb] at qe
        exact nomatch (show some en = none from qe)
      | some b =>
        rw [hb] at qe
        have e2 : en = entryOfKey (tupleKind (mixKind X.prog X.w)) b := Option.some.inj qe
        rw [hv, e2]
        all_goals rfl
  have each : PySem.W.EachIs (StT H) acc'.toList (ws.map fun p => tkD p.1) := by rw [ea]; exact each_stT pr fun p hp => (by
    have h1 : p.1 ∈ kvs.map (·.1) := by rw [← kr.1]; exact List.mem_map.mpr ⟨p, hp, rfl⟩
    obtain ⟨q', hq', e'⟩ := List.mem_map.mp h1
    rw [← e']; exact nk q' hq')
  have lenV : acc'.toList.length = ks.length := by rw [ea, List.length_map]
  have fits : acc'.toList.length ≤ sizeLine := by rw [lenV]; omega
  refine wpAny_bind (wpAny_newList ?_ fits)
  have at1 : (h'.push (seqObj "list" acc'.toList.toArray 0)).get? h'.objs.size = some (seqObj "list" acc'.toList.toArray 0) := Heap.get?_push_size _ rfl
  refine wpAny_bind (wpAny_holding (PySem.W.list_sort_data (s := { s with heap := h'.push (seqObj "list" acc'.toList.toArray 0), toks := tk }) (enc := toPy) at1 each (each.mono fun v d x => 
    ⟨[], PyProof.Rows.Reads.keeps (fun b u e => Heap.get?_push_of_some _ (keep b u e)) (stT_reads I x), by simp⟩) ?_ ?_ ?_ ?_ fun out ho' eo => ?_))
  · rw [← ek]; exact h2
  · rw [← ek]; exact h3
  · rw [← ek]; exact h5
  · intro b hb
    rw [← ek] at hb
    show X.A.units + 1 + 1 + _ < cLine
    rw [dep_py]
    have := deps_mem hb
    omega
  · rw [← ek] at eo
    obtain ⟨c, hc'⟩ := sortedHeap_at (vs := acc'.toList) (out := out.toArray) at1
    obtain ⟨vs, w1, w2⟩ := each_backT (K := X.K) (m := m) eo
    obtain ⟨q1, q2⟩ := q vs w1
    have kp : ∀ b u, s.heap.get? b = some u → (sortedHeap (h'.push (seqObj "list" acc'.toList.toArray 0)) h'.objs.size acc'.toList out.toArray).get? b = some u := fun b u e => by
      have e1 := keep b u e
      have lb := Heap.lt_size e1
      rw [sortedHeap_old (Nat.ne_of_lt lb) (by rw [size_push']; exact Nat.lt_succ_of_lt lb)]
      exact Heap.get?_push_of_some _ e1
    have nw : s.heap.get? h'.objs.size = none := by
      cases e0 : s.heap.get? h'.objs.size with
      | none => rfl
      | some o => exact absurd (Heap.lt_size (keep _ _ e0)) (Nat.lt_irrefl _)
    have hn := I.hok.gone nw
    exact wpAny_pure ⟨_, rfl, .ref h'.objs.size, upd H h'.objs.size (.lst vs), I.laidN (t' := tk) kp nw hn ⟨q1, out, c, w2, hc'⟩, rfl, q2 _ hn⟩
end
end Mi
/-! MiVU: None asked of a dict whose keys are tuples. -/
namespace Mi
open PySem PySem.Spec L2 PyProof.Rows
open Sem (wp)
section
variable {prog : Program} {w : World} {K : Type} [DecidableEq K] {knd : HeapKind prog w K} {A : Around} {E : Value → Shared → Prop} {s : Shared}
theorem mayTell_non {stored : List Value} {Q : Bool → Shared → Prop} (hst : ∀ v ∈ stored, ∃ k' b, v = .ref b ∧ knd.is s.heap k' b) (h : Q false s) : wpAny (model prog w) A (tableMayTell .none stored) Q E s := by
  unfold tableMayTell
  split
  · exact wpAny_pure h
  · refine wpAny_bind (QuietAt.byValue (n := 8) (v := .none) rfl A E _ ?_)
    simp only [Bool.not_true, Bool.false_eq_true, if_false]
    refine wpAny_bind ?_
    refine wpAny_forIn_list _ (fun rest r s' => s' = s ∧ r = (none, ()) ∧ ∀ v ∈ rest, ∃ k' b, v = .ref b ∧ knd.is s.heap k' b) _ ?_ ?_ _ _ ⟨rfl, rfl, hst⟩
    · rintro x rest r s' ⟨rfl, rfl, hr⟩
      obtain ⟨k', b, rfl, hb⟩ := hr x List.mem_cons_self
      refine wpAny_bind (knd.quiet hb ?_)
      simp only [Bool.not_true, Bool.false_eq_true, if_false]
      exact wpAny_pure ⟨rfl, rfl, fun v hv => hr v (List.mem_cons_of_mem _ hv)⟩
    · rintro r s' ⟨rfl, rfl, _⟩
      exact wpAny_pure h
theorem dictFind_non {d : Addr} {o : Obj} {es : Array DictEntry} {ep : Nat} {xs : List (K × Addr × Value)} {h0 : Int} {Q : Option Nat → Shared → Prop} (hu : A.units < cLine)
    (ho : s.heap.get? d = some o) (hd : o.data = .dict es ep) (he : es.toList = xs.map (entryOfKey knd)) (his : ∀ x ∈ xs, knd.is s.heap x.1 x.2.1) (ht : ∀ x ∈ xs, ∃ items, s.heap.IsTuple x.2.1 items)
    (h : Q none s) : wpAny (model prog w) A (dictFind d .none h0) Q E s := by
  have hsz : es.size = xs.length := size_of_entries he
  have hmem : ∀ e ∈ es, ∃ x ∈ xs, e = entryOfKey knd x := by
    intro e hin
    have : e ∈ xs.map (entryOfKey knd) := he ▸ Array.mem_toList_iff.mpr hin
    obtain ⟨x, hx, rfl⟩ := List.mem_map.mp this
    exact ⟨x, hx, rfl⟩
  have hst : ∀ v ∈ (placesWithHash es.size (fun i => es[i]?.map (·.hash)) h0).filterMap (fun i => es[i]?.map (·.key)), ∃ k' b, v = .ref b ∧ knd.is s.heap k' b := by
    intro v hv
    obtain ⟨i, _, hi⟩ := List.mem_filterMap.mp hv
    cases hei : es[i]? with
    | none => rw [hei] at hi; cases hi
    | some e =>
      rw [hei] at hi
      obtain rfl : e.key = v := by simpa using hi
      obtain ⟨x, hx, rfl⟩ := hmem e (Array.mem_of_getElem? hei)
      exact ⟨x.1, x.2.1, rfl, his x hx⟩
  have hat : ∀ (i : Nat) (e : DictEntry), es[i]? = some e → ∃ (b : Addr) (items : Array Value), e.key = .ref b ∧ s.heap.IsTuple b items := fun i e hei => by
    obtain ⟨x, hx, rfl⟩ := hmem e (Array.mem_of_getElem? hei)
    obtain ⟨items, hi⟩ := ht x hx
    exact ⟨x.2.1, items, rfl, hi⟩
  unfold dictFind
  refine wpAny_holding ?_
  refine wpAny_bind (wpAny_dictEntries ho hd ?_)
  dsimp only
  by_cases hall : ((Value.none :: (placesWithHash es.size (fun i => es[i]?.map (·.hash)) h0).filterMap (fun i => es[i]?.map (·.key))).all carriedByValue) = true
  · rw [if_pos hall]
    unfold dictWalkPlain
    refine wpAny_bind ?_
    refine wpAny_forIn_list _ (fun rest b s' => s' = s ∧ b = (none, ())) _ ?_ ?_ _ _ ⟨rfl, rfl⟩
    · rintro x rest b s' ⟨rfl, rfl⟩
      cases hei : es[x]? with
      | none => exact wpAny_pure ⟨rfl, rfl⟩
      | some e =>
        dsimp only
        obtain ⟨b, items, hk, hb⟩ := hat x e hei
        by_cases hh : (e.hash == h0) = true
        · rw [if_pos hh]
          refine wpAny_bind (wpAny_dictEpoch ho hd (wpAny_bind ?_))
          rw [hk]
          refine SeqAt.EqAt.tuple_none hb hu _ _ _ _ (wpAny_bind (wpAny_dictEpoch ho hd ?_))
          rw [if_neg (by simp)]
          simp only [Bool.false_eq_true, if_false]
          exact wpAny_bind (wpAny_rule (wpAny_pure ⟨rfl, rfl⟩))
        · rw [if_neg hh]
          exact wpAny_pure ⟨rfl, rfl⟩
    · rintro b s' ⟨rfl, rfl⟩
      exact wpAny_pure h
  · rw [if_neg hall]
    by_cases hone : (((placesWithHash es.size (fun i => es[i]?.map (·.hash)) h0).filterMap (fun i => es[i]?.map (·.key))) == [Value.none]) = true <;>
    (first | rw [if_pos hone] | rw [if_neg hone]) <;> (first | refine wpAny_bind (wpAny_pure ?_) | refine wpAny_bind (mayTell_non hst ?_)) <;> (
      rw [if_neg (by simp)]
      refine wpAny_bind ?_
      refine wpAny_forIn_list _ (fun rest b s' => s' = s ∧ b = (none, none)) _ ?_ ?_ _ _ ⟨rfl, rfl⟩
      · rintro x rest b s' ⟨rfl, rfl⟩
        cases hei : es[x]? with
        | none => exact wpAny_pure ⟨rfl, rfl⟩
        | some e =>
          dsimp only
          obtain ⟨b, items, hk, hb⟩ := hat x e hei
          by_cases hh : (e.hash == h0) = true
          · rw [if_pos hh]
            refine wpAny_bind (wpAny_dictEpoch ho hd (wpAny_bind ?_))
            rw [hk]
            refine SeqAt.EqAt.tuple_none hb hu _ _ _ _ (wpAny_bind (wpAny_dictEpoch ho hd ?_))
            rw [if_neg (by simp)]
            simp only [Bool.false_eq_true, if_false]
            refine wpAny_bind (wpAny_rule ?_)
            first | rw [if_neg (by simp)] | skip
            first
              | exact wpAny_pure ⟨rfl, rfl⟩
              | exact wpAny_bind (wpAny_pure (wpAny_pure ⟨rfl, rfl⟩))
          · rw [if_neg hh]
            exact wpAny_pure ⟨rfl, rfl⟩
      · rintro b s' ⟨rfl, rfl⟩
        exact wpAny_pure h)
theorem dictGet_non {d : Addr} {xs : List (K × Addr × Value)} {Q : Option Value → Shared → Prop} (hu : A.units + 8 < cLine) (hm : s.heap.DictOfH knd d xs) (ht : ∀ x ∈ xs, ∃ items, s.heap.IsTuple x.2.1 items)
    (h : ∀ t, Q none { s with toks := t }) : wpAny (model prog w) A (dictGet d .none) Q E s := by
  obtain ⟨o, es, ep, ho, _, hd, he, his, hn⟩ := hm
  unfold dictGet
  refine wpAny_holding ?_
  refine wpAny_bind (pyHash_key .none .none A s _ .none (by show A.units + 0 < cLine; omega) (wpAny_bind (dictFind_non (s := { s with toks := _ }) (by omega) ho hd he his ht ?_)))
  exact wpAny_pure (h _)
theorem meets_get_non {d : Addr} (hd : (d == sysModules) = false) :
    MeetsIn prog w (Builtin.«dict.get» ⟨[.ref d, .none], []⟩) (fun A R s => A.in1.units + 8 < cLine ∧ ∃ xs, s.heap.DictOfH knd d xs ∧ (∀ x ∈ xs, ∃ items, s.heap.IsTuple x.2.1 items) ∧ ∀ t, R (.ok (.ret .none)) { s with toks := t }) :=
  .of_wp fun A R s ⟨hu, xs, hm, ht, h⟩ => by
    show wpAny _ _ (dictGet d .none >>= _) _ _ s
    refine wpAny_bind (dictGet_non hu hm ht fun t => ?_)
    show wpAny _ _ (Builtin.Dict.missed d .none >>= _) _ _ _
    exact wpAny_bind (wpAny_missed_other hd (wpAny_pure ⟨.none, rfl, h t⟩))
theorem meets_get_non2 {d : Addr} (hd : (d == sysModules) = false) (dflt : Value) :
    MeetsIn prog w (Builtin.«dict.get» ⟨[.ref d, .none, dflt], []⟩) (fun A R s => A.in1.units + 8 < cLine ∧ ∃ xs, s.heap.DictOfH knd d xs ∧ (∀ x ∈ xs, ∃ items, s.heap.IsTuple x.2.1 items) ∧ ∀ t, R (.ok (.ret dflt)) { s with toks := t }) :=
  .of_wp fun A R s ⟨hu, xs, hm, ht, h⟩ => by
    show wpAny _ _ (dictGet d .none >>= _) _ _ s
    refine wpAny_bind (dictGet_non hu hm ht fun t => ?_)
    show wpAny _ _ (Builtin.Dict.missed d .none >>= _) _ _ _
    exact wpAny_bind (wpAny_missed_other hd (wpAny_pure ⟨dflt, rfl, h t⟩))
end
end Mi
/-! MiVW: {k: v, ..} with tuples as keys; d[k] = v of an empty dict; d.get(None). -/
namespace Mi
open PySem PySem.Spec L2 PyProof.Rows
theorem mergeP_ne {κ : Type} [DecidableEq κ] : ∀ (more kvs : List (κ × V)), (kvs ≠ [] ∨ more ≠ []) → mergeP kvs more ≠ []
  | [], kvs, h => by
    rcases h with h | h
    · exact h
    · exact absurd rfl h
  | p :: more, kvs, _ => by
    refine mergeP_ne more (putK kvs p.1 p.2) (.inl fun e => ?_)
    unfold putK at e
    split at e
    · next h =>
      cases kvs with
      | nil => simp at h
      | cons _ _ => simp at e
    · simp at e
theorem mergeP_len {κ : Type} [DecidableEq κ] : ∀ (more kvs : List (κ × V)), (mergeP kvs more).length ≤ kvs.length + more.length
  | [], kvs => by show kvs.length ≤ kvs.length + 0; omega
  | p :: r, kvs => by
    have h1 := mergeP_len r (putK kvs p.1 p.2)
    have h2 := length_putK kvs p.1 p.2
    show (mergeP (putK kvs p.1 p.2) r).length ≤ _
    rw [List.length_cons]; omega
abbrev KB := List Key × Addr × V
def kbK (q : KB) : List Key × V := (q.1, q.2.2)
def kbV (q : KB) : V × V := (V.ref q.2.1, q.2.2)
section
variable {P : Program} {w : World} {H : Hp} {h : Heap}
theorem carriesT (ok : HOk P w H h) : ∀ {kbs : List KB} {ws : List (Value × Value)}, VV (kbs.map kbV) ws → (∀ q ∈ kbs, H q.2.1 = some (.tup (q.1.map kV))) →
    ∃ rs : List (List Key × Addr × Value), CarriesH (tupleKind (mixKind P w)) h ws rs ∧ Paired (fun (q : KB) r => q.1 = r.1 ∧ q.2.1 = r.2.1 ∧ RelV q.2.2 r.2.2) kbs rs
  | [], _, r, _ => by rw [List.map_nil] at r; cases r; exact ⟨[], True.intro, .nil⟩
  | q :: kbs, _, r, ht => by
    rw [List.map_cons] at r
    cases r with
    | @cons a b as bs h1 t =>
      obtain ⟨rs, c, p⟩ := carriesT ok t fun x hx => ht x (.tail _ hx)
      obtain ⟨b1, b2⟩ := b
      obtain ⟨h2, h3⟩ := h1
      cases (show b1 = Value.ref q.2.1 from h2)
      exact ⟨(q.1, q.2.1, b2) :: rs, ⟨rfl, rfl, key_of ok (ht q (.head _)), c⟩, .cons ⟨rfl, rfl, h3⟩ p⟩
theorem KT.all {kbs : List KB} {rs : List (List Key × Addr × Value)} (p : Paired (fun (q : KB) r => q.1 = r.1 ∧ q.2.1 = r.2.1 ∧ RelV q.2.2 r.2.2) kbs rs) : ∀ {acc : List (List Key × V)} {xs : List (List Key × Addr × Value)}, (∀ q ∈ kbs, H q.2.1 = some (.tup (q.1.map kV))) → KT H acc xs →
    KT H (mergeP acc (kbs.map kbK)) (storedAllH xs rs) := by
  induction p with
  | nil => intro acc xs _ k; exact k
  | @cons q r qs rs h t ih =>
    intro acc xs ht k
    obtain ⟨h1, h2, h3⟩ := h
    have e := ht q (.head _)
    rw [h2] at e
    have k2 := KT.put k q.1 (b := r.2.1) e h3
    rw [h1] at k2
    have := ih (fun x hx => ht x (.tail _ hx)) k2
    show KT H (mergeP (putK acc q.1 q.2.2) (qs.map kbK)) (storedAllH (storedH xs r.1 r.2.1 r.2.2) rs)
    rw [h1]
    exact this
end
section
variable {X : Cx} {pins : List (Addr × Obj)} {σ : L2.St} {H : Hp} {s : Shared} {a : Addr}
/-- an empty dict may be one of either kind -/
theorem inv_toT (I : L2.Inv X pins σ H s) (e : H a = some (.dK [])) : L2.Inv X pins σ (upd H a (.dT [])) s := by
  obtain ⟨z, hd, vs, rel, dd⟩ := dk_of I.hok e
  cases rel
  obtain ⟨o, es, ep, ho, hx, hdt, _, hp, _⟩ := dd
  have he : es.toList = [] := by
    generalize es.toList = l at hp
    cases l with
    | nil => rfl
    | cons _ _ => exact absurd hp (by intro z; cases z)
  exact d_write (h' := s.heap) (t' := s.toks) I (by rw [e]; exact True.intro) (Heap.SameBut.refl _ _) ⟨o, ho⟩ ⟨Nat.zero_le _, hd, [], .nil, o, es, ep, ho, hx, hdt, he, List.nodup_nil⟩
end
def tDispT (trs : List (TE × TE)) : TE := fun σ H Q => ∀ p, H p = none → tPairs trs σ (upd H p (.dK [])) fun ps H2 => H2 p = some (.dK []) ∧ ∃ kbs : List KB, ps = kbs.map kbV ∧ (∀ q ∈ kbs, H2 q.2.1 = some (.tup (q.1.map kV))) ∧ kbs.length ≤ 15 ∧
  Q (.ref p) (upd H2 p (.dT (mergeP [] (kbs.map kbK))))
theorem pe_dispT {X : Cx} {pos : Pos} {keys : List (Option Expr)} {values : List Expr} {trs : List (TE × TE)} (hu : X.A.units + 1 < cLine) (h : PPs X pos keys values trs) (hall : keys.all (·.isSome) = true) (hl : keys.length = values.length) (h0 : keys ≠ [])
    (h15 : keys.length ≤ 15) : PE X (.Dict keys values pos) (tDispT trs) := by
  refine ⟨fun pins s σ H Q I q => ?_⟩
  have hn := I.hok.fresh (Nat.le_refl s.heap.objs.size)
  have I1 := I.laid (a := s.heap.objs.size) (o := .dK []) (h' := s.heap.push { cls := .type "dict", data := .dict #[] }) (t' := s.toks) (fun _ _ q => Heap.get?_push_of_some _ q) (Nat.le_refl _) (dk_empty s.heap I.big)
  have hlen := pairTrees_length keys values X.env pos hall hl
  have hne : pairTrees keys values X.env pos ≠ [] := fun he => by
    rw [he] at hlen
    exact h0 (List.length_eq_zero_iff.mp hlen.symm)
  rw [arm_eval_Dict, zip_pairTrees keys values X.env pos hall hl, dictDisplay_pairs _ hne (by omega)]
  refine wpAny_bind (wpAny_standAt (wpAny_bind (wpAny_subDictH (knd := tupleKind (mixKind X.prog X.w)) (Q := fun d s' => wpAny (model X.prog X.w) X.A (pure (Value.ref d)) (EP X pins σ Q) X.xe s') (show X.A.units < cLine by omega) (by rw [hlen]; exact h15)
    (wpAny_mono (h.run pins _ σ _ _ I1 (q _ hn)) (fun ws s2 h2 => ?_) fun _ _ e => e))))
  obtain ⟨ps, H2, I2, rel, e, kbs, ep, ht, lk, q2⟩ := h2
  subst ep
  obtain ⟨rs, c, pr⟩ := carriesT (P := X.prog) (w := X.w) I2.hok rel ht
  obtain ⟨z, hd, xs0, r0, dd⟩ := dt_of (inv_toT I2 e).hok upd_same
  cases r0
  refine ⟨rs, c, dd, fun h' tk dd' hs => wpAny_pure ⟨.ref s.heap.objs.size, _, ?_, rfl, q2⟩⟩
  have hz : (mergeP [] (kbs.map kbK)).length ≤ sizeLine := by
    have h1 := mergeP_len (kbs.map kbK) []
    rw [List.length_nil, List.length_map] at h1
    rw [sizeLine_eq]; omega
  obtain ⟨q, es, ep, hq, h2, h3, h4, _, h5⟩ := dd'
  refine d_write I2 (by rw [e]; exact True.intro) hs ⟨q, hq⟩ ⟨hz, hd, _, (KT.all pr ht .nil).keeps fun c ys ec => ?_, q, es, ep, hq, h2, h3, h4, h5⟩
  rw [upd_ne (ne_of ec e (fun z => nomatch z))]
  exact ec
section
variable {X : Cx} {pins : List (Addr × Obj)} {σ : L2.St} {H : Hp} {s : Shared} {a : Addr} {y v : V} {u r : Value} {A : Around} {E : Value → Shared → Prop}
theorem d_setItem0 {b : Addr} {k : List Key} {Q : Unit → Shared → Prop} (hu : A.units + 1 < cLine) (I : L2.Inv X pins σ H s) (e : H a = some (.dK [])) (eb : H b = some (.tup (k.map kV))) (rv : RelV v r) (h : ∀ s', L2.Inv X pins σ (upd H a (.dT [(k, v)])) s' → Q () s') :
    wpAny (model X.prog X.w) A (setItem (.ref a) (.ref b) r) Q E s := by
  have eb' : upd H a (.dT []) b = some (.tup (k.map kV)) := by rw [upd_ne (ne_of eb e (fun z => nomatch z))]; exact eb
  refine d_setItem hu (inv_toT I e) (DPut.t (k := k) upd_same eb' (by rw [sizeLine_eq]; simp)) (show RelV (.ref b) (.ref b) from rfl) rv fun s' I' => h s' ?_
  rw [upd_upd] at I'
  exact I'
theorem keys_tup {kvs : List (List Key × V)} (I : L2.Inv X pins σ H s) (e : H a = some (.dT kvs)) : (a == sysModules) = false ∧ ∃ xs, s.heap.DictOfH (tupleKind (mixKind X.prog X.w)) a xs ∧ ∀ x ∈ xs, ∃ items, s.heap.IsTuple x.2.1 items := by
  obtain ⟨z, hd, xs, rel, dd⟩ := dt_of I.hok e
  refine ⟨hd, xs, dd, fun x hx => ?_⟩
  obtain ⟨o, es, ep, _, _, _, _, his, _⟩ := dd
  obtain ⟨ob, its, n, h1, h2, h3, _⟩ := his x hx
  exact ⟨its, ob, h1, h2, n, h3⟩
/-- d.get(None), d.get(None, x) of a dict whose keys are tuples -/
theorem d_getN1 {kvs : List (List Key × V)} {Q : Value → Shared → Prop} (hu : A.units + 64 < cLine) (I : L2.Inv X pins σ H s) (e : H a = some (.dT kvs)) (h : ∀ s', L2.Inv X pins σ H s' → Q .none s') :
    wpAny (model X.prog X.w) A (call (.builtin "dict.get") [.ref a, .none]) Q E s := by
  obtain ⟨hd, xs, dd, ht⟩ := keys_tup I e
  have ty : s.TypeIs (.ref a) "dict" := by
    obtain ⟨o, _, _, ho, hx, _⟩ := dd
    exact ⟨o, ho, hx.1⟩
  refine call_meetsIn PySem.F.slot_dict_get ty PySem.F.entry_dict_get (PySem.F.args_dict_get_2 _ _) (meets_get_non (knd := tupleKind (mixKind X.prog X.w)) hd) ⟨?_, xs, dd, ht, fun t => h _ (I.tok _)⟩
  show A.units + 1 + 8 < cLine
  omega
theorem d_getN2 {kvs : List (List Key × V)} {Q : Value → Shared → Prop} (hu : A.units + 64 < cLine) (I : L2.Inv X pins σ H s) (e : H a = some (.dT kvs)) (h : ∀ s', L2.Inv X pins σ H s' → Q r s') :
    wpAny (model X.prog X.w) A (call (.builtin "dict.get") [.ref a, .none, r]) Q E s := by
  obtain ⟨hd, xs, dd, ht⟩ := keys_tup I e
  have ty : s.TypeIs (.ref a) "dict" := by
    obtain ⟨o, _, _, ho, hx, _⟩ := dd
    exact ⟨o, ho, hx.1⟩
  refine call_meetsIn PySem.F.slot_dict_get ty PySem.F.entry_dict_get (PySem.F.args_dict_get_3 _ _ _) (meets_get_non2 (knd := tupleKind (mixKind X.prog X.w)) hd r) ⟨?_, xs, dd, ht, fun t => h _ (I.tok _)⟩
  show A.units + 1 + 8 < cLine
  omega
end
section
variable {K : PySem.W.Frag} {H H' : Hp} {m m' : Pl} {st : Store}
/-- a dict laid ahead, filled, is shown as a cell -/
theorem dict_shownT {m1 : Pl} {H1 : Hp} {st1 : Store} {p : Addr} {kvs : List (List Key × D)} {ws : List (List Key × V)} (hS : SimS K H m st) (hp : H p = none) (x : Ext (upd H p (.dK [])) H1 m m1) (hS1 : SimS K H1 m1 st1) (nn : ws ≠ []) (kr : KVR K H1 m1 kvs ws) :
    H1 p = some (.dK []) ∧ Ext H (upd H1 p (.dT ws)) m (m1.push p) ∧ SimS K (upd H1 p (.dT ws)) (m1.push p) (st1 ++ [.dt kvs]) ∧ RD K (upd H1 p (.dT ws)) (m1.push p) (.loc st1.length) (.ref p) := by
  obtain ⟨nt, nx⟩ := hS.notin' hp
  have e1 : H1 p = some (.dK []) := x.keep p _ upd_same nt
  have nt1 : p ∉ m1.t := fun z => by
    have := x.new p z nt
    rw [upd_same] at this; cases this
  have nx1 : p ∉ m1.x := by rw [x.pv]; exact nx
  have s2 : Same2 H1 (upd H1 p (.dT ws)) m1 (m1.push p) := by
    refine ⟨fun l b h => ?_, fun b o h n => ?_, fun b o vs h n ho => ?_⟩
    · show (m1.t ++ [p])[l]? = some b
      rw [List.getElem?_append_left (List.getElem?_eq_some_iff.mp h).1]; exact h
    · rw [upd_ne (fun e : b = p => by subst e; rw [e1] at h; cases h; exact n trivial)]; exact h
    · have ne : b ≠ p := fun e => by
        subst e; rw [e1] at h; cases h
        rcases ho with ho | ⟨_, ho⟩ <;> cases ho
      refine ⟨⟨fun z => ?_, n.2⟩, by rw [upd_ne ne]; exact h⟩
      rcases List.mem_append.mp (show b ∈ m1.t ++ [p] from z) with z | z
      · exact n.1 z
      · simp at z; exact ne z
  refine ⟨e1, ⟨fun l b h => s2.t l b (x.pre l b h), fun b h h' => ?_, fun b o h h' => ?_, x.pv⟩, ?_, .loc ?_⟩
  · rcases List.mem_append.mp (show b ∈ m1.t ++ [p] from h) with z | z
    · have := x.new b z h'
      have ne : b ≠ p := fun e => nt1 (e ▸ z)
      rw [upd_ne ne] at this; exact this
    · simp at z; subst z; exact hp
  · have ne : b ≠ p := ne_of_none h hp
    rw [upd_ne ne]
    exact x.keep b o (by rw [upd_ne ne]; exact h) h'
  · refine hS1.pushed s2 nt1 nx1 (fun b o h e => ?_) (fun b hb => ?_) ⟨ws, nn, upd_same, kr.1, kr.2.same s2⟩
    · rw [upd_ne (fun z : b = p => nt1 (z ▸ h))]; exact e
    · obtain ⟨_, vs, e⟩ := hS1.pv b hb
      exact ⟨vs, by rw [upd_ne (fun z : b = p => nx1 (z ▸ hb))]; exact e⟩
  · rw [← hS1.len]; simp [Pl.push]
end
end Mi
/-! MiZ: sorted(xs) of tuples whose heads are unlike texts. -/
namespace Mi
open PySem PySem.Spec L2 PySem.W PyProof.Rows
def HeadAt (h : Heap) (v : Value) (x : Str) : Prop := ∃ a o xs n tk, v = .ref a ∧ h.get? a = some o ∧ o.cls = .type "tuple" ∧ o.data = .seq xs n ∧ xs[0]? = some (.str x tk)
theorem HeadAt.one {h : Heap} {v : Value} {x y : Str} (p : HeadAt h v x) (q : HeadAt h v y) : x = y := by
  obtain ⟨a, o, xs, n, tk, rfl, h1, h2, h3, h4⟩ := p
  obtain ⟨a', o', xs', n', tk', e, k1, k2, k3, k4⟩ := q
  cases e
  rw [h1] at k1; cases k1
  rw [h3] at k3; cases k3
  rw [h4] at k4; cases k4
  rfl
theorem HeadAt.keep {h h' : Heap} {v : Value} {x : Str} (p : HeadAt h v x) (k : ∀ a o, h.get? a = some o → h'.get? a = some o) : HeadAt h' v x := by
  obtain ⟨a, o, xs, n, tk, rfl, h1, h2, h3, h4⟩ := p
  exact ⟨a, o, xs, n, tk, rfl, k _ _ h1, h2, h3, h4⟩
noncomputable def headKind (h : Heap) (vs : List Value) : PyProof.Rows.KeyKind where
  toKeyOrd := listOrd itemOrd
  keyOf v := open Classical in if q : v ∈ vs ∧ ∃ x, HeadAt h v x then some (keyToks (.str q.2.choose)) else none
  dflt := ([] : List (Int ⊕ List Nat))
theorem headKind_some {h : Heap} {vs : List Value} {v : Value} {x : Str} (hv : v ∈ vs) (r : HeadAt h v x) : (headKind h vs).keyOf v = some (keyToks (.str x)) := by
  have q : v ∈ vs ∧ ∃ x, HeadAt h v x := ⟨hv, x, r⟩
  have e : (headKind h vs).keyOf v = some (keyToks (.str q.2.choose)) := by
    show (open Classical in if q : v ∈ vs ∧ ∃ x, HeadAt h v x then some (keyToks (.str q.2.choose)) else none) = _
    rw [dif_pos q]
  rw [e, q.2.choose_spec.one r]
theorem headKind_inv {h : Heap} {vs : List Value} {v : Value} {k : List (Int ⊕ List Nat)} (e : (headKind h vs).keyOf v = some k) : v ∈ vs ∧ ∃ x, HeadAt h v x ∧ k = keyToks (.str x) := by
  by_cases q : v ∈ vs ∧ ∃ x, HeadAt h v x
  · have e' : (headKind h vs).keyOf v = some (keyToks (.str q.2.choose)) := by
      show (open Classical in if q : v ∈ vs ∧ ∃ x, HeadAt h v x then some (keyToks (.str q.2.choose)) else none) = _
      rw [dif_pos q]
    rw [e'] at e
    exact ⟨q.1, _, q.2.choose_spec, (Option.some.inj e).symm⟩
  · have e' : (headKind h vs).keyOf v = none := by
      show (open Classical in if q : v ∈ vs ∧ ∃ x, HeadAt h v x then some (keyToks (.str q.2.choose)) else none) = _
      rw [dif_neg q]
      rfl
    rw [e'] at e
    exact absurd e (by simp)
section
variable {prog : Program} {w : World} {A : Around} {s : Shared}
theorem eq_self {v : Value} {Q : Bool → Shared → Prop} {E : Value → Shared → Prop} (h : Q true s) : wpAny (model prog w) A (eqBool v v) Q E s := by
  unfold eqBool
  try with_reducible refine wpAny_holding ?_
  show wpAny _ _ (if (v == v) = true then _ else _) Q E s
  rw [if_pos (beq_self_eq_true v)]
  exact wpAny_bind (wpAny_rule (wpAny_pure h))
theorem kat_self {b : Bool} {Q : Bool → Shared → Prop} (h : Q false s) : ∀ (r : List Value) (i : Nat), KatLex prog w A b false Q (r.zip r) i s
  | [], i => kat_nil h
  | v :: r, i => by
    rw [List.zip_cons_cons]
    exact kat_cons (eq_self (kat_yes (kat_self h r (i + 1))))
theorem head_tups {h : Heap} : ∀ {vs : List Value}, (∀ v ∈ vs, ∃ x, HeadAt h v x) → ∃ fs, KatTups h vs fs ∧ fs.length = vs.length ∧ ∀ f ∈ fs, ∃ x tk, f = Value.str x tk
  | [], _ => ⟨[], KatTups.nil, rfl, fun f hf => by cases hf⟩
  | v :: vs, hv => by
    obtain ⟨fs, t, l, hf⟩ := head_tups (vs := vs) fun z hz => hv z (.tail _ hz)
    obtain ⟨x, a, o, xs, n, tk, rfl, h1, h2, h3, h4⟩ := hv v (.head _)
    refine ⟨.str x tk :: fs, KatTups.cons h1 h2 h3 h4 t, by simp [l], fun f h => ?_⟩
    rcases List.mem_cons.mp h with rfl | h
    · exact ⟨_, _, rfl⟩
    · exact hf f h
theorem SortsAt.heads {vs : List Value} (hv : ∀ v ∈ vs, ∃ x, HeadAt s.heap v x) (hne : ∀ v ∈ vs, ∀ v' ∈ vs, ∀ x, HeadAt s.heap v x → HeadAt s.heap v' x → v = v') (hu : A.units + 1 < cLine) : SortsAt prog w A s (headKind s.heap vs) vs := by
  refine ⟨fun v h => ?_, tuples' true, ?_, fun h2 E Q hq => ?_⟩
  · obtain ⟨x, r⟩ := hv v h
    exact ⟨_, headKind_some h r⟩
  · intro E x y a b Q ha hb hq
    obtain ⟨hx, x0, X, rfl⟩ := headKind_inv ha
    obtain ⟨hy, y0, Y, rfl⟩ := headKind_inv hb
    have same := hne x hx y hy
    obtain ⟨ax, ox, xs, n, tk, rfl, g1, g2, g3, g4⟩ := id X
    obtain ⟨ay, oy, ys, m, tk', rfl, k1, k2, k3, k4⟩ := id Y
    have ex : xs.toList = .str x0 tk :: xs.toList.tail := by
      rw [← Array.getElem?_toList] at g4
      cases h : xs.toList with
      | nil => rw [h] at g4; cases g4
      | cons z r => rw [h] at g4; cases g4; rfl
    have ey : ys.toList = .str y0 tk' :: ys.toList.tail := by
      rw [← Array.getElem?_toList] at k4
      cases h : ys.toList with
      | nil => rw [h] at k4; cases k4
      | cons z r => rw [h] at k4; cases k4; rfl
    refine kat_lt g1 g3 k1 k3 ?_
    rw [ex, ey, List.zip_cons_cons]
    have room : A.units + min (PyData.str x0).depth (PyData.str y0).depth < cLine := by
      have e1 : (PyData.str x0).depth = 0 := by simp [PyData.depth]
      rw [e1]; simp; omega
    refine kat_cons (eqAt_alike (.str x0) (.str y0) A s _ _ _ _ (Reads.str x0 tk) (Reads.str y0 tk') rfl room prog w _ _ ?_)
    cases hz : PyData.eqv (.str x0) (.str y0) with
    | true =>
      have e0 : x0 = y0 := by simpa [PyData.eqv] using hz
      subst e0
      have e1 := same x0 X Y
      cases e1
      rw [g1] at k1; cases k1
      rw [g3] at k3; cases k3
      have ef : decide (xs.size < xs.size) = false := by simp
      rw [ef]
      refine kat_yes (kat_self ?_ _ _)
      have irr : (headKind s.heap vs).blt (keyToks (.str x0)) (keyToks (.str x0)) = false := (listOrd itemOrd).irrefl _
      rw [irr] at hq
      exact hq
    | false =>
      exact kat_no (oneLt_alike (fun _ xs h => by cases h) (Reads.str x0 tk) (Reads.str y0 tk') rfl (fun h => by cases h) room hq)
  · obtain ⟨fs, t, l, hf⟩ := head_tups hv
    refine kat_kind (T := .type "str") t (by omega) (fun f h => ?_) (beq_self_eq_true _) hq
    obtain ⟨x, tk, rfl⟩ := hf f h
    exact Looks.of_pure rfl
end
section
variable {X : Cx} {pins : List (Addr × Obj)} {σ : L2.St} {H : Hp} {s : Shared} {m : Pl}
theorem each_heads (I : L2.Inv X pins σ H s) : ∀ {us : List Value} {ds : List D}, (∀ d ∈ ds, (headD d).isSome = true) → EachIs (Stands X.K H m) us ds → EachIs (fun v d => ∃ x, headD d = some x ∧ HeadAt s.heap v x) us ds
  | _, _, _, .nil => .nil
  | _, d :: ds, p, .cons ⟨x, r, q⟩ t => by
    refine .cons ?_ (each_heads I (fun d hd => p d (.tail _ hd)) t)
    have pd := p d (.head _)
    unfold headD at pd ⊢
    split at pd
    · next z rest =>
      obtain ⟨a, vs, rfl, ha, ra⟩ := rd_tup r
      cases ra with
      | cons r1 r2 =>
        cases r1
        obtain ⟨its, rv, ht, _⟩ := I.tuple ha
        cases rv with
        | cons q1 q2 =>
          obtain ⟨tk, rfl⟩ := (show ∃ t, _ = Value.str z t from q1)
          obtain ⟨o, ho, hc, n, hd⟩ := ht
          cases (show _ = Value.ref a from q)
          exact ⟨z, rfl, a, o, _, n, tk, rfl, ho, hc, hd, by simp⟩
    · cases pd
theorem heads_ne {h : Heap} : ∀ {us : List Value} {ds : List D}, EachIs (fun v d => ∃ x, headD d = some x ∧ HeadAt h v x) us ds → (ds.filterMap headD).Nodup → ∀ v ∈ us, ∀ v' ∈ us, ∀ x, HeadAt h v x → HeadAt h v' x → v = v'
  | _, _, .nil, _, v, hv, _, _, _, _, _ => by cases hv
  | _, d :: ds, .cons (a := u) ⟨z, e, hz⟩ t, nd, v, hv, v', hv', x, hx, hx' => by
    have e2 : (d :: ds).filterMap headD = z :: ds.filterMap headD := by rw [List.filterMap_cons, e]
    rw [e2, List.nodup_cons] at nd
    have out : ∀ {us : List Value} {ds : List D}, EachIs (fun v d => ∃ x, headD d = some x ∧ HeadAt h v x) us ds → ∀ v ∈ us, ∀ x, HeadAt h v x → x ∈ ds.filterMap headD := by
      intro us ds r
      induction r with
      | nil => intro v hv; cases hv
      | cons r t ih =>
        intro v hv x hx
        obtain ⟨y, ey, hy⟩ := r
        rw [List.filterMap_cons, ey]
        rcases List.mem_cons.mp hv with rfl | hv
        · rw [hx.one hy]; exact .head _
        · exact .tail _ (ih v hv x hx)
    rcases List.mem_cons.mp hv with e1 | k1
    · rcases List.mem_cons.mp hv' with e2 | k2
      · rw [e1, e2]
      · have := out t v' k2 x hx'
        rw [e1] at hx
        rw [hx.one hz] at this
        exact absurd this nd.1
    · rcases List.mem_cons.mp hv' with e2 | k2
      · have := out t v k1 x hx
        rw [e2] at hx'
        rw [hx'.one hz] at this
        exact absurd this nd.1
      · exact heads_ne t nd.2 v k1 v' k2 x hx hx'
theorem headsOk_p {xs : List D} (h : headsOk xs = true) : (∀ d ∈ xs, (headD d).isSome = true) ∧ (xs.filterMap headD).Nodup ∧ xs.length ≤ sizeLine := by
  simp only [headsOk, Bool.and_eq_true, decide_eq_true_eq, List.all_eq_true] at h
  exact ⟨h.1.1, h.1.2, h.2⟩
theorem srt_heads (hu : X.A.units + 64 < cLine) {a : Addr} {vs : List V} {xs : List D} {u : Value} {Q : VK} (I : L2.Inv X pins σ H s) (ru : L2.RelV (.ref a) u) (ha : SqL X.K H a vs) (ra : RDs X.K H m xs vs) (hk : headsOk xs = true)
    (q : ∀ ws, RDs X.K H m (sortH xs) ws → ws.length ≤ sizeLine ∧ ∀ p, H p = none → Q (.ref p) (upd H p (.lst ws))) : wpAny (model X.prog X.w) X.A (call (.builtin "sorted") [u]) (EP X pins σ Q) X.xe s := by
  cases (show u = Value.ref a from ru)
  obtain ⟨h1, h2, h5⟩ := headsOk_p hk
  obtain ⟨its, r, hl, hz⟩ := I.list ha
  have e := each_of ra r
  have eh := each_heads I h1 e
  have old : ∀ b o, s.heap.get? b = some o → (sortingHeap (copyHeap s.heap its) (s.heap.objs.size + 1) its).get? b = some o := fun b o => sorting_copy_old
  have eh' : EachIs (fun v d => ∃ x, headD d = some x ∧ HeadAt (sortingHeap (copyHeap s.heap its) (s.heap.objs.size + 1) its) v x) its xs := eh.mono fun _ _ ⟨x, e1, e2⟩ => ⟨x, e1, e2.keep old⟩
  have lenE : its.length = xs.length := e.length
  have S : SortsAt X.prog X.w X.A.in1.in1 { s with heap := sortingHeap (copyHeap s.heap its) (s.heap.objs.size + 1) its } (headKind (sortingHeap (copyHeap s.heap its) (s.heap.objs.size + 1) its) its) its :=
    SortsAt.heads (fun v hv => by
      obtain ⟨d, _, x, _, hx⟩ := eh'.left v hv
      exact ⟨x, hx⟩) (heads_ne eh' h2) (by show X.A.units + 1 + 1 + 1 < cLine; omega)
  refine sorted_vals hl.isList S (by rw [lenE]; exact h5) ?_
  have eo := sortVals_each (rev := false) (κ := headKind (sortingHeap (copyHeap s.heap its) (s.heap.objs.size + 1) its) its) (fun d : D => keyToks (.str ((headD d).getD ""))) e (by
    have em : EachIs (fun v d => v ∈ its ∧ ∃ x, headD d = some x ∧ HeadAt (sortingHeap (copyHeap s.heap its) (s.heap.objs.size + 1) its) v x) its xs := by
      have gen : ∀ {us : List Value} {ds : List D}, EachIs (fun v d => ∃ x, headD d = some x ∧ HeadAt (sortingHeap (copyHeap s.heap its) (s.heap.objs.size + 1) its) v x) us ds → (∀ v ∈ us, v ∈ its) → EachIs (fun v d => v ∈ its ∧ ∃ x, headD d = some x ∧ HeadAt (sortingHeap (copyHeap s.heap its) (s.heap.objs.size + 1) its) v x) us ds := by
        intro us ds r
        induction r with
        | nil => intro _; exact .nil
        | cons r t ih => intro h; exact .cons ⟨h _ (.head _), r⟩ (ih fun v hv => h v (.tail _ hv))
      exact gen eh' fun v hv => hv
    exact em.mono fun v d ⟨hv, x, e1, e2⟩ => by rw [headKind_some hv e2, e1]; rfl)
  obtain ⟨ws, w1, w2⟩ := each_back eo
  obtain ⟨q1, q2⟩ := q ws w1
  obtain ⟨ep, he'⟩ := PyProof.Rows.sortedAll_at s.heap its (sortVals (headKind (sortingHeap (copyHeap s.heap its) (s.heap.objs.size + 1) its) its) false its its).toArray
  exact ⟨.ref _, L2.upd H (s.heap.objs.size + 1) (.lst ws), I.laid (t' := s.toks) (fun _ _ => PyProof.Rows.sortedAll_old) (Nat.le_succ _) ⟨q1, _, ep, w2, he'⟩, rfl, q2 _ (I.hok.fresh (Nat.le_succ _))⟩
end
end Mi
/-! MiZB: sorted(d.items()) of a dict whose keys are texts. -/
namespace Mi
open PySem PySem.Spec L2 PySem.W PyProof.Rows
theorem each_ix {α β : Type} {R : α → β → Prop} : ∀ {vs : List α} {ds : List β}, vs.length = ds.length → (∀ (j : Nat) (v : α) (d : β), vs[j]? = some v → ds[j]? = some d → R v d) → EachIs R vs ds
  | [], [], _, _ => .nil
  | v :: vs, d :: ds, h, r => .cons (r 0 v d rfl rfl) (each_ix (by simpa using h) fun j v d a b => r (j + 1) v d (by simpa using a) (by simpa using b))
  | [], _ :: _, h, _ => by simp at h
  | _ :: _, [], h, _ => by simp at h
theorem pairs_at {P : Program} {w : World} : ∀ {es : List DictEntry} {kvs : List (Key × Value)}, Pairs (mixKind P w) es kvs → ∀ {j : Nat} {e : DictEntry}, es[j]? = some e → ∃ kv, kvs[j]? = some kv ∧ (mixKind P w).is kv.1 e.key = true ∧ e.val = kv.2
  | _, _, .nil, j, e, h => by simp at h
  | _, _, .cons h1 h2 t, 0, e, h => by
    simp at h
    subst h
    exact ⟨_, rfl, h1, h2⟩
  | _, _, .cons h1 h2 t, j + 1, e, h => by
    obtain ⟨kv, a, b⟩ := pairs_at t (j := j) (by simpa using h)
    exact ⟨kv, by simpa using a, b⟩
theorem mt_itemsK {X : Cx} : MtR X "dict.items" (fun x xs H Q => ∃ (a : Addr) (kvs : List (Key × V)), x = .ref a ∧ xs = [] ∧ H a = some (.dK kvs) ∧ ∀ p, H p = none → Q (.ref p) (upd H p (DX.itemsO p a))) := by
  intro pins s σ H x xs v us Q I rx rxs h
  obtain ⟨a, kvs, rfl, rfl, ha, q⟩ := h
  cases rx
  cases rxs
  obtain ⟨z, hd, us, rel, dd⟩ := dk_of I.hok ha
  obtain ⟨o, es, ep, ho, hx, hdat, _⟩ := dd
  refine DT.callItems (es := es) (ep := ep) hd ⟨o, ho, hx, hdat⟩ ?_
  have hf : H s.heap.objs.size = none := I.hok.fresh (Nat.le_refl _)
  exact ⟨.ref s.heap.objs.size, upd H s.heap.objs.size (DX.itemsO s.heap.objs.size a), I.laid (t' := s.toks) (fun b u e => Heap.get?_push_of_some _ e) (Nat.le_refl _) (DX.itemsO_ok (Heap.get?_push_size _ rfl)), rfl, q _ hf⟩
section
variable {X : Cx} {pins : List (Addr × Obj)} {σ : L2.St} {H : Hp} {s : Shared} {m : Pl}
theorem sit_rule (hc : X.calm = true) (hu : X.A.units + 64 < cLine) {a p : Addr} {ws : List (Key × V)} {kvs : List (Key × D)} {Q : VK} (I : L2.Inv X pins σ H s) (hp : H p = some (DX.itemsO p a)) (ha : H a = some (.dK ws)) (cs : Cells H m) (kr : KVR X.K H m kvs ws) (hk : headsOk (kvs.map itD) = true)
    (q : ∀ H2 l vs, (∀ b o, H b = some o → H2 b = some o) → H l = none → H2 l = some (.lst vs) → RDs X.K H2 m (sortH (kvs.map itD)) vs → Q (.ref l) H2) : wpAny (model X.prog X.w) X.A (call (.builtin "sorted") [.ref p]) (EP X pins σ Q) X.xe s := by
  have view : s.heap.IsItemsView p a := (show ObjOk X.prog X.w H s.heap p (DX.itemsO p a) from I.hok p _ hp).1
  obtain ⟨z, hd, us, rel, dd⟩ := dk_of I.hok ha
  obtain ⟨o, es, ep, ho, hx, hdat, hks, prs, ndk⟩ := dd
  obtain ⟨h1, h2, h5⟩ := headsOk_p hk
  have lw := kr.length
  have lu := rel.length
  have le : es.size = us.length := by rw [← Array.length_toList]; exact prs.length
  rw [List.length_map] at h5
  have hh : X.A.handled = none := I.ok.hd hc
  refine DT.sortedI (es := es) (ep := ep) hh view ⟨o, ho, hx, hdat⟩ (by omega) fun h' tk as hk' hlt hl hG => ?_
  have la : as.length = kvs.length := by omega
  have nd : as.Nodup := List.Pairwise.imp (fun h => Nat.ne_of_lt h) hG.rise
  -- what stands in the pairs
  have pr : ∀ (j : Nat) (b : Addr) (e : Key × D), as[j]? = some b → kvs[j]? = some e → ∃ (xv : V) (u y : Value), ws[j]? = some (e.1, xv) ∧ h'.get? b = some { cls := .type "tuple", data := .seq #[u, y] } ∧ L2.RelV (kV e.1) u ∧ L2.RelV xv y ∧ RD X.K H m e.2 xv := by
    intro j b e hj he
    obtain ⟨en, e1, e2⟩ := hG.pairs j b hj
    obtain ⟨kv, k1, k2, k3⟩ := pairs_at prs (j := j) (e := en) (by rw [Array.getElem?_toList]; exact e1)
    have jw : j < ws.length := by
      have := (List.getElem?_eq_some_iff.mp he).1
      omega
    have hw : ws[j]? = some ws[j] := List.getElem?_eq_getElem jw
    obtain ⟨v, r1, r2⟩ := RDs.get kr.2 (i := j) (d := e.2) (by rw [List.getElem?_map, he]; rfl)
    rw [List.getElem?_map, hw] at r1
    have ev : ws[j].2 = v := Option.some.inj r1
    have key : ws[j].1 = e.1 := by
      have q1 : (ws.map (·.1))[j]? = (kvs.map (·.1))[j]? := by rw [kr.1]
      rw [List.getElem?_map, List.getElem?_map, hw, he] at q1
      exact Option.some.inj q1
    have rk : ws[j].1 = kv.1 ∧ L2.RelV ws[j].2 kv.2 := by
      have gen : ∀ {l : List (Key × V)} {n : List (Key × Value)}, KV l n → ∀ {j : Nat} {x : Key × V} {y : Key × Value}, l[j]? = some x → n[j]? = some y → x.1 = y.1 ∧ L2.RelV x.2 y.2 := by
        intro l n r
        unfold KV at r
        induction r with
        | nil => intro j x y hx; simp at hx
        | cons h t ih =>
          intro j x y hx hy
          cases j with
          | zero => simp at hx hy; subst hx hy; exact h
          | succ j => exact ih (by simpa using hx) (by simpa using hy)
      exact gen rel hw k1
    refine ⟨ws[j].2, en.key, en.val, ?_, e2, ?_, ?_, by rw [ev]; exact r2⟩
    · rw [hw, ← key]
    · have := (key_val (P := X.prog) (w := X.w) k2).1
      rw [← rk.1, key] at this
      exact this
    · rw [k3]; exact rk.2
  let R : Value → D → Prop := fun v d => ∃ (b : Addr) (j : Nat) (e : Key × D), v = .ref b ∧ as[j]? = some b ∧ kvs[j]? = some e ∧ d = itD e
  have e : EachIs R (as.map Value.ref) (kvs.map itD) := each_ix (by simp [la]) fun j v d hv hd => by
    rw [List.getElem?_map] at hv hd
    obtain ⟨b, hb, rfl⟩ := Option.map_eq_some_iff.mp hv
    obtain ⟨x, hx, rfl⟩ := Option.map_eq_some_iff.mp hd
    exact ⟨b, j, x, rfl, hb, hx, rfl⟩
  have hob : (h'.push { cls := .type "list", data := .seq (as.map Value.ref).toArray }).get? h'.objs.size = some (seqObj "list" (as.map Value.ref).toArray 0) := Heap.get?_push_size _ rfl
  have kb : ∀ b o, s.heap.get? b = some o → (h'.push { cls := .type "list", data := .seq (as.map Value.ref).toArray }).get? b = some o := fun b o e => Heap.get?_push_of_some _ (hk' b o e)
  have ne0 : ∀ b o, h'.get? b = some o → b ≠ h'.objs.size := fun b o e => Nat.ne_of_lt (Heap.lt_size e)
  generalize hh2 : h'.push { cls := .type "list", data := .seq (as.map Value.ref).toArray } = h2' at hob kb ⊢
  have ka : ∀ b o, h'.get? b = some o → h2'.get? b = some o := fun b o e => by rw [← hh2]; exact Heap.get?_push_of_some _ e
  have kh : ∀ b o, h'.get? b = some o → (sortingHeap h2' h'.objs.size (as.map Value.ref)).get? b = some o := fun b o e => sortingHeap_old (ne0 b o e) (ka b o e)
  have eh : EachIs (fun v d => ∃ x, headD d = some x ∧ HeadAt (sortingHeap h2' h'.objs.size (as.map Value.ref)) v x) (as.map Value.ref) (kvs.map itD) := each_ix (by simp [la]) fun j v d hv hd => by
    have hd0 := h1 d (List.mem_of_getElem? hd)
    rw [List.getElem?_map] at hv hd
    obtain ⟨b, hb, rfl⟩ := Option.map_eq_some_iff.mp hv
    obtain ⟨⟨k, dv⟩, hx, rfl⟩ := Option.map_eq_some_iff.mp hd
    obtain ⟨xv, u, y, _, g1, g2, _, _⟩ := pr j b _ hb hx
    cases k with
    | inl i => cases hd0
    | inr x =>
      obtain ⟨t, rfl⟩ := (show ∃ t, u = Value.str x t from g2)
      exact ⟨x, rfl, b, _, #[.str x t, y], 0, t, rfl, kh _ _ g1, rfl, rfl, rfl⟩
  have S : SortsAt X.prog X.w X.A.in1.in1 { s with heap := sortingHeap h2' h'.objs.size (as.map Value.ref), toks := tk } (headKind (sortingHeap h2' h'.objs.size (as.map Value.ref)) (as.map Value.ref)) (as.map Value.ref) :=
    SortsAt.heads (fun v hv => by
      obtain ⟨d, _, x, _, hx⟩ := eh.left v hv
      exact ⟨x, hx⟩) (heads_ne eh h2) (by show X.A.units + 1 + 1 + 1 < cLine; omega)
  have eo := sortVals_each (rev := false) (κ := headKind (sortingHeap h2' h'.objs.size (as.map Value.ref)) (as.map Value.ref)) (fun d : D => keyToks (.str ((headD d).getD ""))) e (by
    have em : EachIs (fun v d => v ∈ as.map Value.ref ∧ ∃ x, headD d = some x ∧ HeadAt (sortingHeap h2' h'.objs.size (as.map Value.ref)) v x) (as.map Value.ref) (kvs.map itD) := by
      have gen : ∀ {us : List Value} {ds : List D}, EachIs (fun v d => ∃ x, headD d = some x ∧ HeadAt (sortingHeap h2' h'.objs.size (as.map Value.ref)) v x) us ds → (∀ v ∈ us, v ∈ as.map Value.ref) → EachIs (fun v d => v ∈ as.map Value.ref ∧ ∃ x, headD d = some x ∧ HeadAt (sortingHeap h2' h'.objs.size (as.map Value.ref)) v x) us ds := by
        intro us ds r
        induction r with
        | nil => intro _; exact .nil
        | cons r t ih => intro h; exact .cons ⟨h _ (.head _), r⟩ (ih fun v hv => h v (.tail _ hv))
      exact gen eh fun v hv => hv
    exact em.mono fun v d ⟨hv, x, e1, e2⟩ => by rw [headKind_some hv e2, e1]; rfl)
  generalize hout : sortVals (headKind (sortingHeap h2' h'.objs.size (as.map Value.ref)) (as.map Value.ref)) false (as.map Value.ref) (as.map Value.ref) = out at eo
  refine wpAny_call_entry slot_list_sort ⟨_, hob, rfl⟩ entry_list_sort (list_sort_vals (s := { s with heap := h2', toks := tk }) hob S (by rw [List.length_map]; omega) ⟨.none, rfl, ?_⟩) (args_list_sort _)
  rw [hout]
  show EP X pins σ Q (.ref h'.objs.size) { s with heap := sortedHeap h2' h'.objs.size (as.map Value.ref) out.toArray, toks := tk }
  have kF : ∀ b o, b ≠ h'.objs.size → h2'.get? b = some o → (sortedHeap h2' h'.objs.size (as.map Value.ref) out.toArray).get? b = some o := fun b o hb e => (sortedHeap_old hb (Heap.lt_size e)).trans e
  have kS : ∀ b o, s.heap.get? b = some o → (sortedHeap h2' h'.objs.size (as.map Value.ref) out.toArray).get? b = some o := fun b o e => kF b o (ne0 _ _ (hk' b o e)) (kb b o e)
  obtain ⟨eF, heF⟩ := sortedHeap_at (vs := as.map Value.ref) (out := out.toArray) hob
  -- the sorted list's addresses
  have fin : ∃ bs : List Addr, out = bs.map Value.ref ∧ bs.length = kvs.length ∧ ∀ H2 : Hp, (∀ b o, H b = some o → H2 b = some o) → (∀ b ∈ as, ∃ vs, (∃ (j : Nat) (e : Key × D) (xv : V), as[j]? = some b ∧ kvs[j]? = some e ∧ ws[j]? = some (e.1, xv) ∧ vs = [kV e.1, xv]) ∧ H2 b = some (.tup vs)) → RDs X.K H2 m (sortH (kvs.map itD)) (bs.map V.ref) := by
    have gen : ∀ {us : List Value} {ds : List D}, EachIs R us ds → ∃ bs : List Addr, us = bs.map Value.ref ∧ bs.length = ds.length ∧ ∀ H2 : Hp, (∀ b o, H b = some o → H2 b = some o) → (∀ b ∈ as, ∃ vs, (∃ (j : Nat) (e : Key × D) (xv : V), as[j]? = some b ∧ kvs[j]? = some e ∧ ws[j]? = some (e.1, xv) ∧ vs = [kV e.1, xv]) ∧ H2 b = some (.tup vs)) → RDs X.K H2 m ds (bs.map V.ref) := by
      intro us ds r
      induction r with
      | nil => exact ⟨[], rfl, rfl, fun _ _ _ => .nil⟩
      | cons r t ih =>
        obtain ⟨b, j, e, rfl, hb, he, rfl⟩ := r
        obtain ⟨bs, rfl, hl, hR⟩ := ih
        refine ⟨b :: bs, rfl, by simp [hl], fun H2 g tr => .cons ?_ (hR H2 g tr)⟩
        obtain ⟨vs, ⟨j', e', xv, hb', he', hw', rfl⟩, hH⟩ := tr b (List.mem_of_getElem? hb)
        have jj : j = j' := (List.getElem?_inj (List.getElem?_eq_some_iff.mp hb).1 nd).mp (hb.trans hb'.symm)
        subst jj
        rw [he] at he'; cases he'
        obtain ⟨xv2, u, y, w1, _, _, _, rd⟩ := pr j b e hb he
        rw [hw'] at w1; cases w1
        have x : Ext H H2 m m := ⟨fun _ _ h => h, fun _ h h' => absurd h h', fun b o h _ => g b o h, rfl⟩
        exact .tup (SqT.of hH) (fun _ => hH) (fun z => by
          obtain ⟨e1, e2⟩ := e
          cases e1 <;> simp [pairy, pairHd, kD] at z) (.cons (key_rd e.1) (.cons (rd.mono cs x) .nil))
    obtain ⟨bs, h1, h2, h3⟩ := gen eo
    refine ⟨bs, h1, ?_, h3⟩
    rw [h2]
    have : ((kvs.map itD).mergeSort (sortLe (headKind (sortingHeap h2' h'.objs.size (as.map Value.ref)) (as.map Value.ref)).toKeyOrd false fun d : D => keyToks (.str ((headD d).getD "")))).length = (kvs.map itD).length := (List.mergeSort_perm _ _).length_eq
    rw [this, List.length_map]
  obtain ⟨bs, rfl, lb, hR⟩ := fin
  have rv : Vals (bs.map V.ref) (bs.map Value.ref) := vals_maps (fun z : Addr => V.ref z) (fun z => Value.ref z) bs fun _ _ => rfl
  have I1 : L2.Inv X pins σ H { s with heap := sortedHeap h2' h'.objs.size (as.map Value.ref) (bs.map Value.ref).toArray, toks := tk } := I.kept (t' := tk) kS
  have hn0 : H h'.objs.size = none := I.hok.fresh (Nat.le_of_lt hlt)
  have I2 : L2.Inv X pins σ (upd H h'.objs.size (.lst (bs.map V.ref))) { s with heap := sortedHeap h2' h'.objs.size (as.map Value.ref) (bs.map Value.ref).toArray, toks := tk } :=
    I1.take (h' := sortedHeap h2' h'.objs.size (as.map Value.ref) (bs.map Value.ref).toArray) (t' := tk) (fun b ob _ e => e) (I.fpOk (Nat.le_of_lt hlt) hn0) ⟨by rw [List.length_map]; omega, bs.map Value.ref, eF, rv, heF⟩
  obtain ⟨H2, I3, g, qt⟩ := DX.takeT (P := fun b vs => ∃ (j : Nat) (e : Key × D) (xv : V), as[j]? = some b ∧ kvs[j]? = some e ∧ ws[j]? = some (e.1, xv) ∧ vs = [kV e.1, xv]) I as _ I2 nd fun b hb => by
    obtain ⟨j, hj⟩ := List.mem_iff_getElem?.mp hb
    have jl : j < kvs.length := by have := (List.getElem?_eq_some_iff.mp hj).1; omega
    have he : kvs[j]? = some kvs[j] := List.getElem?_eq_getElem jl
    obtain ⟨xv, u, y, w1, g1, g2, g3, _⟩ := pr j b _ hj he
    have hbl : s.heap.objs.size ≤ b := Nat.le_of_lt (hG.above b hb)
    refine ⟨hbl, ?_, [kV kvs[j].1, xv], ⟨j, _, xv, hj, he, w1, rfl⟩, fun H3 => ⟨(by rw [sizeLine_eq]; show 2 ≤ 16777216; omega), [u, y], .cons g2 (.cons g3 .nil), ⟨_, kF _ _ (ne0 _ _ g1) (ka _ _ g1), rfl, 0, rfl⟩⟩⟩
    rw [upd_ne (ne0 _ _ g1)]
    exact I.hok.fresh hbl
  have gr : ∀ b o, H b = some o → H2 b = some o := fun b o e => g b o (by rw [upd_ne (ne_of_none e hn0)]; exact e)
  exact ⟨.ref h'.objs.size, H2, I3, rfl, q H2 h'.objs.size _ gr hn0 (g _ _ upd_same) (hR H2 gr qt)⟩
/-- the same as a rule of calls -/
def rSit (K : PySem.W.Frag) : List V → Hp → VK → Prop := fun xs H Q => ∃ (p a : Addr) (ws : List (Key × V)) (kvs : List (Key × D)) (m : Pl), xs = [.ref p] ∧ H p = some (DX.itemsO p a) ∧ H a = some (.dK ws) ∧ Cells H m ∧ KVR K H m kvs ws ∧ headsOk (kvs.map itD) = true ∧
  ∀ H2 l vs, (∀ b o, H b = some o → H2 b = some o) → H l = none → H2 l = some (.lst vs) → RDs K H2 m (sortH (kvs.map itD)) vs → Q (.ref l) H2
theorem cr_sit (hc : X.calm = true) (hu : X.A.units + 64 < cLine) : CallR X (.builtin "sorted") (rSit X.K) := by
  intro pins s σ H xs us Q I rx h
  obtain ⟨p, a, ws, kvs, m, rfl, hp, ha, cs, kr, hk, q⟩ := h
  obtain ⟨u, rfl, ru⟩ := vals1 rx
  cases (show u = Value.ref p from ru)
  exact sit_rule hc hu I hp ha cs kr hk q
theorem SimS.grow {K : PySem.W.Frag} {H2 : Hp} {st : Store} (s : SimS K H m st) (g : ∀ b o, H b = some o → H2 b = some o) : SimS K H2 m st := by
  have x : Ext H H2 m m := ⟨fun _ _ h => h, fun _ h h' => absurd h h', fun b o h _ => g b o h, rfl⟩
  refine ⟨s.nd, s.len, fun l a c h1 h2 => (s.cell l a c h1 h2).map (fun o e _ => g _ _ e) fun ds vs r => r.mono s.cells x, fun a ha => ?_⟩
  obtain ⟨n, vs, e⟩ := s.pv a ha
  exact ⟨n, vs, g _ _ e⟩
end
end Mi
/-! MiED: dict(xs) of a list or a plain tuple of pairs, keys texts, numbers, pairs of ints; tuple(xs), plain; slices of tuples, plain. -/
namespace Mi
open PySem PySem.Spec L2 PyProof.Rows
section
variable {X : Cx} {pins : List (Addr × Obj)} {σ : L2.St} {H : Hp} {s : Shared}
/-- a pair whose first part is a pair of ints -/
def PairP (K : PySem.W.Frag) (H : Hp) (p : Addr) (kv : List Key × V) : Prop := ∃ b, SqT K H p [.ref b, kv.2] ∧ H b = some (.tup (kv.1.map kV))
theorem pairs_ofT (I : L2.Inv X pins σ H s) : ∀ {ps : List Addr} {kvs : List (List Key × V)}, Paired (PairP X.K H) ps kvs →
    ∃ prs : List (List Key × Addr × Value), KT H kvs prs ∧ prs.length = ps.length ∧ ∀ (j : Nat) (q : List Key × Addr × Value), prs[j]? = some q → ∃ t, ps[j]? = some t ∧ IsTup s.heap t #[Value.ref q.2.1, q.2.2]
  | _, _, .nil => ⟨[], .nil, rfl, fun j q e => by simp at e⟩
  | _, _, .cons (a := p) (b := kv) ⟨b, h, hb⟩ t => by
    obtain ⟨prs, r, hl, hp⟩ := pairs_ofT I t
    obtain ⟨its, rv, ht, _⟩ := I.tuple h
    obtain ⟨u, y, rfl, ru, ry⟩ := vals2 rv
    cases (show u = Value.ref b from ru)
    refine ⟨(kv.1, b, y) :: prs, .cons ⟨rfl, hb, ry⟩ r, by simp [hl], fun j q e => ?_⟩
    cases j with
    | zero => cases (Option.some.inj e); exact ⟨p, rfl, ht⟩
    | succ j =>
      obtain ⟨t', e1, e2⟩ := hp j q (by simpa using e)
      exact ⟨t', by simpa using e1, e2⟩
theorem KT_merge : ∀ {more : List (List Key × V)} {ms : List (List Key × Addr × Value)} {acc : List (List Key × V)} {ws : List (List Key × Addr × Value)}, KT H acc ws → KT H more ms → KT H (mergeP acc more) (storedAllH ws ms)
  | _, _, _, _, r, .nil => r
  | _, _, acc, ws, r, .cons (a := p) (b := q) h t => by
    have e : p.1 = q.1 := h.1
    have r2 := KT.put r p.1 h.2.1 h.2.2
    have r3 := KT_merge r2 t
    rw [e] at r3
    show KT H (mergeP (putK acc p.1 p.2) _) (storedAllH (storedH ws q.1 q.2.1 q.2.2) _)
    rw [e]
    exact r3
theorem mergeP_length {κ : Type} [DecidableEq κ] : ∀ (more acc : List (κ × V)), (mergeP acc more).length ≤ acc.length + more.length
  | [], acc => Nat.le_refl _
  | p :: more, acc => by
    have h1 := mergeP_length more (putK acc p.1 p.2)
    have h2 := length_putK acc p.1 p.2
    show (mergeP (putK acc p.1 p.2) more).length ≤ _
    simp only [List.length_cons]
    omega
theorem ps_items {ps : List Addr} {prs : List (Value × Value)} {h : Heap} (hl : prs.length = ps.length) (hp : ∀ (j : Nat) (k v : Value), prs[j]? = some (k, v) → ∃ t, ps[j]? = some t ∧ PairAt h t k v) :
    PairItems h (ps.map Value.ref).toArray (fun j => ps.getD j 0) prs := by
  refine ⟨by simp [hl], fun j k v e => ?_⟩
  obtain ⟨t, e1, e2⟩ := hp j k v e
  have e3 : ps.getD j 0 = t := by rw [List.getD_eq_getElem?_getD, e1]; rfl
  show (ps.map Value.ref).toArray[j]? = some (Value.ref (ps.getD j 0)) ∧ PairAt h (ps.getD j 0) k v
  rw [e3]
  exact ⟨by simp [e1], e2⟩
/-- where the pairs stand: a list, or a plain tuple -/
def PairsAt (K : PySem.W.Frag) (H : Hp) (a : Addr) (vs : List V) : Prop := SqL K H a vs ∨ PlT H a vs
theorem pairs_seq (I : L2.Inv X pins σ H s) {a : Addr} {ps : List Addr} (h : PairsAt X.K H a (ps.map V.ref)) : ps.length ≤ sizeLine ∧ (PlainSeq "list" s.heap a (ps.map Value.ref).toArray ∨ PlainSeq "tuple" s.heap a (ps.map Value.ref).toArray) := by
  rcases h with h | ⟨o, h, hd⟩
  · obtain ⟨its, rv, pl, hz⟩ := I.list h
    cases refs_at rv
    obtain ⟨o, n, ho, hc, hd, hdat⟩ := pl
    exact ⟨by simpa using hz, .inl ⟨o, n, ho, hc, hd, hdat⟩⟩
  · obtain ⟨h1, hz, its, rv, o2, h2, hc, n, hdat⟩ := (show ObjOk X.prog X.w H s.heap a (.frz o (.tup (ps.map V.ref))) from I.hok a _ h)
    cases refs_at rv
    rw [h1] at h2; cases h2
    exact ⟨by simpa using hz, .inr ⟨o, n, h1, hc, hd, hdat⟩⟩
/-- dict(xs): pairs of ints as keys -/
theorem call_dictPT (hc : X.calm = true) (hu : X.A.units + 64 < cLine) : CallR X (.type "dict") (fun xs H Q => ∃ (a : Addr) (ps : List Addr) (kvs : List (List Key × V)), xs = [.ref a] ∧ PairsAt X.K H a (ps.map V.ref) ∧ Paired (PairP X.K H) ps kvs ∧
    ∀ p, H p = none → Q (.ref p) (upd H p (.dT (mergeP [] kvs)))) := by
  intro pins s σ H xs us Q I r q
  obtain ⟨a, ps, kvs, rfl, hq, hp, q⟩ := q
  rw [Vals.ref1 r]
  obtain ⟨prs, rel, hl, hpr⟩ := pairs_ofT I hp
  obtain ⟨hz, sq⟩ := pairs_seq I hq
  have it : PairItems s.heap (ps.map Value.ref).toArray (fun j => ps.getD j 0) (prs.map fun q => (Value.ref q.2.1, q.2.2)) := ps_items (by simp [hl]) fun j k v e => by
    rw [List.getElem?_map, Option.map_eq_some_iff] at e
    obtain ⟨q, e1, e2⟩ := e
    cases e2
    obtain ⟨t, e3, e4⟩ := hpr j q e1
    exact ⟨t, e3, .inl e4⟩
  have hv : PairsHaveH (tupleKind (mixKind X.prog X.w)) (prs.map fun q => (Value.ref q.2.1, q.2.2)).length (PairRel (prs.map fun q => (Value.ref q.2.1, q.2.2))) prs := ⟨by simp, fun i key v e => by
    have e : (prs.map fun q => (Value.ref q.2.1, q.2.2))[i]? = some (key, v) := e
    rw [List.getElem?_map, Option.map_eq_some_iff] at e
    obtain ⟨⟨k, b, v'⟩, e1, e2⟩ := e
    cases e2
    exact ⟨k, b, e1, rfl⟩⟩
  have keysIn : ∀ {l : List (List Key × V)} {m : List (List Key × Addr × Value)}, KT H l m → ∀ x ∈ m, H x.2.1 = some (.tup (x.1.map kV)) := by
    intro l m q
    induction q with
    | nil => intro x hx; exact nomatch hx
    | @cons p q ps qs hq t ih =>
      intro x hx
      rcases List.mem_cons.mp hx with e | hx
      · subst e; rw [← hq.1]; exact hq.2.1
      · exact ih x hx
  have st : KeysStay (tupleKind (mixKind X.prog X.w)) s.heap s.heap.objs.size [] prs := fun h' hk x hx => by
    obtain ⟨o, its, n, h1, h2, h3, h4⟩ := key_of I.hok (keysIn rel x hx)
    exact ⟨o, its, n, hk _ _ (Nat.ne_of_lt (Heap.lt_size h1)) (by simp) h1, h2, h3, h4⟩
  have fin : ∀ h' tk, h'.DictOfH (tupleKind (mixKind X.prog X.w)) s.heap.objs.size (storedAllH [] prs) → (∀ b o, b ∉ ([] : List Addr) → s.heap.get? b = some o → h'.get? b = some o) → EP X pins σ Q (.ref s.heap.objs.size) { s with heap := h', toks := tk } := fun h' tk dd k => by
    have hm : (s.heap.objs.size == sysModules) = false := beq_eq_false_iff_ne.mpr (Nat.ne_of_gt I.big)
    have hn := I.hok.fresh (Nat.le_refl s.heap.objs.size)
    have hlen : (mergeP [] kvs).length ≤ sizeLine := by
      refine Nat.le_trans (mergeP_length kvs []) ?_
      rw [List.length_nil, Nat.zero_add, Paired.length rel, hl]; exact hz
    obtain ⟨q1, es, ep, hq1, h2, h3, h4, _, h5⟩ := dd
    refine ⟨.ref s.heap.objs.size, upd H s.heap.objs.size (.dT (mergeP [] kvs)), I.laid (t' := tk) (fun b o e => k b o (by simp) e) (Nat.le_refl _) ⟨hlen, hm, storedAllH [] prs, ?_, q1, es, ep, hq1, h2, h3, h4, h5⟩, rfl, q _ hn⟩
    exact (KT_merge (.nil) rel).keeps fun b ys e => by rw [upd_ne (ne_of_none e hn)]; exact e
  have hn2 : (prs.map fun q => (Value.ref q.2.1, q.2.2)).length ≤ sizeLine := by simp [hl]; exact hz
  have rm : (tupleKind (mixKind X.prog X.w)).room X.A.in1.in1 := tupleKind_room_in1 (A := X.A.in1) (by show X.A.units + 1 + 1 < cLine; omega)
  rcases sq with sq | sq
  · exact call_dict_pairsH (ps := prs) (PairArg.list a _ _ _) (I.ok.hd hc) rm ⟨sq, it⟩ hv st hn2 fin
  · exact call_dict_pairsH (ps := prs) (PairArg.tuple a _ _ _) (I.ok.hd hc) rm ⟨sq, it⟩ hv st hn2 fin
/-- dict(xs) of a list or plain tuple of pairs with texts, ints -/
theorem call_dictPK (hc : X.calm = true) : CallR X (.type "dict") (fun xs H Q => ∃ (a : Addr) (ps : List Addr) (kvs : List (Key × V)), xs = [.ref a] ∧ PlT H a (ps.map V.ref) ∧ Paired (fun p kv => SqT X.K H p [kV kv.1, kv.2]) ps kvs ∧
    ∀ p, H p = none → Q (.ref p) (upd H p (.dK (mergeK [] kvs)))) := by
  intro pins s σ H xs us Q I r q
  obtain ⟨a, ps, kvs, rfl, hq, hp, q⟩ := q
  rw [Vals.ref1 r]
  obtain ⟨prs, rel, hl, hpr⟩ := pairs_of I hp
  obtain ⟨hz, sq⟩ := pairs_seq I (.inr hq)
  have key : ∀ (j : Nat) (q : Key × Value), prs[j]? = some q → ∃ t u, ps[j]? = some t ∧ IsTup s.heap t #[u, q.2] ∧ keyIs q.1 u = true := hpr
  let us2 : List (Value × Value) := (List.range prs.length).map fun j => match ps[j]?.bind s.heap.get? with
    | some ⟨_, _, .seq its _, _⟩ => (its.getD 0 .none, its.getD 1 .none)
    | _ => (.none, .none)
  have at2 : ∀ (j : Nat) (k v : Value), us2[j]? = some (k, v) → ∃ q t, prs[j]? = some q ∧ ps[j]? = some t ∧ IsTup s.heap t #[k, v] ∧ keyIs q.1 k = true ∧ q.2 = v := fun j k v e => by
    simp only [us2, List.getElem?_map, Option.map_eq_some_iff] at e
    obtain ⟨j', e1, e2⟩ := e
    have hj := (List.getElem?_eq_some_iff.mp e1).1
    rw [List.length_range] at hj
    rw [List.getElem?_range hj] at e1
    cases e1
    have e3 : prs[j]? = some prs[j] := List.getElem?_eq_getElem hj
    obtain ⟨t, u, e4, e5, e6⟩ := key j _ e3
    obtain ⟨o, h1, h2, n, h3⟩ := id e5
    rw [e4] at e2
    obtain ⟨c, d, dt, sl⟩ := o
    simp only at h3
    subst h3
    simp only [Option.bind_some, h1] at e2
    cases e2
    exact ⟨_, t, e3, e4, e5, e6, rfl⟩
  have hl2 : us2.length = prs.length := by simp [us2]
  have it : PairItems s.heap (ps.map Value.ref).toArray (fun j => ps.getD j 0) us2 := ps_items (by rw [hl2, hl]) fun j k v e => by
    obtain ⟨q, t, _, e2, e3, _⟩ := at2 j k v e
    exact ⟨t, e2, .inl e3⟩
  have hv : PairsHave (mixKind X.prog X.w) us2.length (PairRel us2) prs := ⟨hl2.symm, fun i k v e => by
    obtain ⟨⟨k', v'⟩, t, e1, _, _, e4, e5⟩ := at2 i k v e
    cases e5
    exact ⟨k', e1, e4⟩⟩
  have fin : ∀ h' tk, h'.DictOf (mixKind X.prog X.w) s.heap.objs.size (merged [] prs) → (∀ b o, b ∉ ([] : List Addr) → s.heap.get? b = some o → h'.get? b = some o) → EP X pins σ Q (.ref s.heap.objs.size) { s with heap := h', toks := tk } := fun h' tk dd k => by
    have hm : (s.heap.objs.size == sysModules) = false := beq_eq_false_iff_ne.mpr (Nat.ne_of_gt I.big)
    have hlen : (mergeK [] kvs).length ≤ sizeLine := by
      refine Nat.le_trans (length_mergeK kvs []) ?_
      rw [List.length_nil, Nat.zero_add, rel.length, hl]; exact hz
    exact ⟨.ref s.heap.objs.size, upd H s.heap.objs.size (.dK (mergeK [] kvs)), I.laid (t' := tk) (fun b o e => k b o (by simp) e) (Nat.le_refl _) (show ObjOk X.prog X.w _ _ _ (.dK (mergeK [] kvs)) from ⟨hlen, hm, merged [] prs, KV.merge rel .nil, dd⟩), rfl, q _ (I.hok.fresh (Nat.le_refl _))⟩
  have hn2 : us2.length ≤ sizeLine := by rw [hl2, hl]; exact hz
  rcases sq with sq | sq
  · exact call_dict_pairs (PairArg.list a _ _ _) (I.ok.hd hc) ⟨sq, it⟩ hv hn2 fin
  · exact call_dict_pairs (PairArg.tuple a _ _ _) (I.ok.hd hc) ⟨sq, it⟩ hv hn2 fin
/-- tuple(xs), the new one known as a tuple or as a plain one -/
theorem call_tupN : CallR X (.type "tuple") (fun xs H Q => ∃ p ys, xs = [.ref p] ∧ ((SqL X.K H p ys ∧ TNew Q H ys) ∨ (SqT X.K H p ys ∧ Q (.ref p) H))) := by
  intro pins s σ H xs us Q I r h
  obtain ⟨p, ys, rfl, h⟩ := h
  rw [Vals.ref1 r]
  rcases h with ⟨hq, q⟩ | ⟨hq, q⟩
  · obtain ⟨its, r', pl, hz⟩ := I.list hq
    have hlen := r'.length
    refine call_tuple_list pl.isList (fun h' kp => ?_) (by simp only [List.size_toArray] <;> omega)
    exact laidN (I.kept (t' := s.toks) kp) hz r' q
  · obtain ⟨its, r', pl, hz⟩ := I.tuple hq
    exact call_tuple_same pl ⟨.ref p, H, I, rfl, q⟩
end
end Mi
/-! MiZC: max(d.values(), default=0) of a dict of ints. -/
namespace Mi
open PySem PySem.Spec L2 PySem.W PyProof.Rows
theorem Cmp_in {prog : Program} {w : World} {A : Around} {op : CmpOp} {H : Heap} {P : Nat → Value → Prop} {bt : Nat → Nat → Bool} (h : CmpOf prog w A op P bt) : CmpIn prog w A op H P bt := fun i j vi vj s Q E _ hi hj q => h i j vi vj s Q E hi hj q
/-- the values of the dict at a: ints -/
def ValsIn (h : Heap) (a : Addr) (ns : List Int) : Prop := ∃ o es ep, h.get? a = some o ∧ o.ExactDict ∧ o.data = .dict es ep ∧ (a == sysModules) = false ∧ es.size = ns.length ∧ ∀ (i : Nat) (e : DictEntry), es[i]? = some e → ∃ t, e.val = .int (ns.getD i 0) t
theorem getD_of {ns : List Int} {i : Nat} {x : Int} (h : ns[i]? = some x) : ns.getD i 0 = x := by rw [List.getD_eq_getElem?_getD, h]; rfl
theorem ints_ofP {α β : Type} {f : α → V} {g : β → Value} {F : α → β → Prop} (hF : ∀ p q, F p q → RelV (f p) (g q)) : ∀ {kvs : List α} {xs : List β} {ns : List Int}, Paired F kvs xs → kvs.map f = ns.map V.int → xs.length = ns.length ∧ ∀ (i : Nat) (q : β), xs[i]? = some q → ∃ t, g q = .int (ns.getD i 0) t
  | _, _, [], .nil, _ => ⟨rfl, fun i q h => by simp at h⟩
  | _, _, _ :: _, .nil, h => by simp at h
  | _, _, [], .cons _ _, h => by simp at h
  | _, _, n :: ns, .cons r t, h => by
    simp only [List.map_cons, List.cons.injEq] at h
    obtain ⟨l, k⟩ := ints_ofP hF t h.2
    refine ⟨by simp [l], fun i q e => ?_⟩
    cases i with
    | zero =>
      simp at e
      subst e
      have := hF _ _ r
      rw [h.1] at this
      exact this
    | succ i => exact k i q (by simpa using e)
section
variable {X : Cx} {pins : List (Addr × Obj)} {σ : L2.St} {H : Hp} {s : Shared} {a : Addr} {ns : List Int}
theorem vIn_dk {ws : List (Key × V)} (I : L2.Inv X pins σ H s) (e : H a = some (.dK ws)) (hn : ws.map (·.2) = ns.map V.int) : ValsIn s.heap a ns := by
  obtain ⟨z, hd, us, rel, dd⟩ := dk_of I.hok e
  obtain ⟨o, es, ep, ho, hx, hdat, hks, prs, ndk⟩ := dd
  obtain ⟨l, k⟩ := ints_ofP (f := fun p : Key × V => p.2) (g := fun q : Key × Value => q.2) (fun p q h => h.2) rel hn
  refine ⟨o, es, ep, ho, hx, hdat, hd, ?_, fun i en he => ?_⟩
  · rw [← Array.length_toList, prs.length]; exact l
  · obtain ⟨kv, k1, k2, k3⟩ := pairs_at prs (j := i) (e := en) (by rw [Array.getElem?_toList]; exact he)
    rw [k3]
    exact k i kv k1
theorem vIn_dt {ws : List (List Key × V)} (I : L2.Inv X pins σ H s) (e : H a = some (.dT ws)) (hn : ws.map (·.2) = ns.map V.int) : ValsIn s.heap a ns := by
  obtain ⟨z, hd, xs, rel, dd⟩ := dt_of I.hok e
  obtain ⟨o, es, ep, ho, hx, hdat, hes, _, _⟩ := dd
  obtain ⟨l, k⟩ := ints_ofP (f := fun p : List Key × V => p.2) (g := fun q : List Key × Addr × Value => q.2.2) (fun p q h => h.2.2) rel hn
  refine ⟨o, es, ep, ho, hx, hdat, hd, ?_, fun i en he => ?_⟩
  · rw [← Array.length_toList, hes, List.length_map]; exact l
  · rw [← Array.getElem?_toList, hes, List.getElem?_map] at he
    obtain ⟨q, hq, rfl⟩ := Option.map_eq_some_iff.mp he
    exact k i q hq
theorem meetsVals {prog : Program} {w : World} {d : Addr} {es : Array DictEntry} {ep : Nat} (hd : (d == sysModules) = false) :
    MeetsIn prog w (Builtin.«dict.values» ⟨[.ref d], []⟩) (fun _ R s => DT.Raw s.heap d es ep ∧
      R (.ok (.ret (.ref s.heap.objs.size))) { s with heap := s.heap.push { cls := .type "dict_values", data := .fields #[.ref d] } }) :=
  .of_wp fun A R s ⟨hm, h⟩ => by
    refine wpAny_bind ?_
    unfold Builtin.Dict.noArgs
    refine wpAny_bind (wpAny_notOrdered_dict hm.typeIs ?_)
    show wpAny _ _ (pure d) _ _ s
    refine wpAny_pure ?_
    show wpAny _ _ (Builtin.Dict.showsAll d >>= _) _ _ s
    unfold Builtin.Dict.showsAll
    rw [if_neg (by rw [hd]; exact Bool.false_ne_true)]
    refine wpAny_bind (wpAny_pure ?_)
    exact wpAny_bind (wpAny_newObj_type (wpAny_pure ⟨_, rfl, h⟩))
/-- d.values() -/
theorem mt_values : MtR X "dict.values" (fun x xs H Q => ∃ (a : Addr), x = .ref a ∧ xs = [] ∧ ((∃ ws, H a = some (.dK ws)) ∨ ∃ ws, H a = some (.dT ws)) ∧ ∀ p, H p = none → Q (.ref p) (upd H p (viewO "dict_values" p a))) := by
  intro pins s σ H x xs v us Q I rx rxs h
  obtain ⟨a, rfl, rfl, ha, q⟩ := h
  cases rx
  cases rxs
  have hr : ∃ es ep, (a == sysModules) = false ∧ DT.Raw s.heap a es ep := by
    rcases ha with ⟨ws, ha⟩ | ⟨ws, ha⟩
    · obtain ⟨z, hd, us, rel, dd⟩ := dk_of I.hok ha
      obtain ⟨o, es, ep, ho, hx, hdat, _⟩ := dd
      exact ⟨es, ep, hd, o, ho, hx, hdat⟩
    · obtain ⟨z, hd, us, rel, dd⟩ := dt_of I.hok ha
      obtain ⟨o, es, ep, ho, hx, hdat, _⟩ := dd
      exact ⟨es, ep, hd, o, ho, hx, hdat⟩
  obtain ⟨es, ep, hd, raw⟩ := hr
  refine call_meetsIn PySem.F.slot_dict_values raw.typeIs PySem.F.entry_dict_values (PySem.F.args_dict_values_1 _) (meetsVals (es := es) (ep := ep) hd) ⟨raw, ?_⟩
  have hf : H s.heap.objs.size = none := I.hok.fresh (Nat.le_refl _)
  exact ⟨.ref s.heap.objs.size, upd H s.heap.objs.size (viewO "dict_values" s.heap.objs.size a), I.laid (t' := s.toks) (fun b u e => Heap.get?_push_of_some _ e) (Nat.le_refl _) (viewO_ok (Heap.get?_push_size _ rfl)), rfl, q _ hf⟩
theorem maxI_is {ns : List Int} {m : Int} (hm : m ∈ ns) (h : ∀ y ∈ ns, y ≤ m) : maxI ns = m := by
  have gen : ∀ (xs : List Int) (x : Int), (∀ y ∈ x :: xs, y ≤ m) → m ∈ x :: xs → xs.foldl max x = m := by
    intro xs
    induction xs with
    | nil => intro x _ hm; simpa using (List.mem_singleton.mp hm).symm
    | cons y ys ih =>
      intro x h hm
      rw [List.foldl_cons]
      have hx := h x (.head _)
      have hy := h y (.tail _ (.head _))
      refine ih _ (fun z hz => ?_) ?_
      · rcases List.mem_cons.mp hz with rfl | hz
        · omega
        · exact h z (.tail _ (.tail _ hz))
      · rcases List.mem_cons.mp hm with rfl | hm
        · exact List.mem_cons.mpr (.inl (by omega))
        · rcases List.mem_cons.mp hm with rfl | hm
          · exact List.mem_cons.mpr (.inl (by omega))
          · exact .tail _ hm
  cases ns with
  | nil => cases hm
  | cons x xs => exact gen xs x h hm
/-- max of a view, default=0 -/
def rMax (X : Cx) : List V → List V → Hp → VK → Prop := fun vs zs H Q => ∃ (p a : Addr) (ns : List Int), vs = [.ref p] ∧ zs = [.int 0] ∧ H p = some (viewO "dict_values" p a) ∧ ((∃ ws : List (Key × V), H a = some (.dK ws) ∧ ws.map (·.2) = ns.map V.int) ∨ ∃ ws : List (List Key × V), H a = some (.dT ws) ∧ ws.map (·.2) = ns.map V.int) ∧ Q (.int (maxI ns)) H
theorem ck_max (hc : X.calm = true) : CallRK X (.builtin "max") [Str.ofString "default"] (rMax X) := by
  intro pins s σ H xs zs us ws' Q I rx rz h
  obtain ⟨p, a, ns, rfl, rfl, hp, hd, q⟩ := h
  rw [Vals.ref1 rx]
  obtain ⟨d, rfl, rd⟩ := vals1 rz
  have vi : ValsIn s.heap a ns := by
    rcases hd with ⟨ws, ha, hn⟩ | ⟨ws, ha, hn⟩
    · exact vIn_dk I ha hn
    · exact vIn_dt I ha hn
  obtain ⟨ob, es, ep, ho, hx, hdat, _, hsz, hP⟩ := vi
  have hv : s.heap.get? p = some (DSub.viewOb "dict_values" a) := (show ObjOk X.prog X.w H s.heap p (viewO "dict_values" p a) from I.hok p _ hp).1
  show wpAny _ _ (call (.builtin "max") [.ref p] [(Str.ofString "default", d)]) _ _ _
  refine call_max_walkD ?_
  refine DSub.iter_vals hv ho hdat ?_
  have ha : a < s.heap.objs.size := Heap.lt_size ho
  have back : ∀ s', Moved [s.heap.objs.size] (fun a b => b = a) { s with heap := s.heap.push (DVw.valOb a 0 es.size ep) } s' → ∃ h' tk, s' = { s with heap := h', toks := tk } ∧ ∀ b o, s.heap.get? b = some o → h'.get? b = some o := fun s' m => moved_old rfl rfl m
  refine ⟨s.heap.objs.size, [s.heap.objs.size, a], [s.heap.objs.size], _, es.size, fun i v => ∃ t, v = .int (ns.getD i 0) t, _, s.heap, fun i j => decide (ns.getD i 0 > ns.getD j 0), rfl, (DSub.walksVal (a := a) (show X.A.in1.handled = none from I.ok.hd hc) (Nat.ne_of_lt ha) hdat hP).toS, ⟨Heap.get?_push_size _ rfl, Heap.get?_push_of_some _ ho⟩, fun b hb => ?_, fun b o e hb => ?_, fun b o e => Heap.get?_push_of_some _ e, fun hz s' m => ?_, fun hpos => ⟨Cmp_in (CmpOf.ints_gt (fun i => ns.getD i 0) (fun i v z => z)), fun v s' hv' m => ?_⟩⟩
  · show b < (s.heap.push _).objs.size
    rw [Heap.size_push]
    rcases List.mem_cons.mp hb with z | z
    · rw [z]
      exact Nat.lt_succ_self _
    · rw [List.mem_singleton.mp z]
      exact Nat.lt_succ_of_lt ha
  · exact absurd (Heap.lt_size e) ((List.mem_singleton.mp hb) ▸ Nat.lt_irrefl _)
  · obtain ⟨h', tk, rfl, hk⟩ := back s' m
    have e0 : ns = [] := List.eq_nil_of_length_eq_zero (by omega)
    subst e0
    exact ⟨.int 0, H, I.kept (t' := tk) hk, rd, q⟩
  · obtain ⟨h', tk, rfl, hk⟩ := back s' m
    obtain ⟨t, rfl⟩ := hv'
    obtain ⟨m1', m2'⟩ := argBest_gt (fun i => ns.getD i 0) (es.size - 1)
    have m1 : argBest (fun i j => decide (ns.getD i 0 > ns.getD j 0)) (es.size - 1) ≤ es.size - 1 := m1'
    have m2 : ∀ j, j ≤ es.size - 1 → ns.getD j 0 ≤ ns.getD (argBest (fun i j => decide (ns.getD i 0 > ns.getD j 0)) (es.size - 1)) 0 := m2'
    have e : maxI ns = ns.getD (argBest (fun i j => decide (ns.getD i 0 > ns.getD j 0)) (es.size - 1)) 0 := maxI_is (PySem.getD_mem (by omega)) fun y hy => by
      obtain ⟨j, hj, e⟩ := List.mem_iff_getElem.mp hy
      have z := m2 j (by omega)
      have e3 : ns.getD j 0 = y := by rw [List.getD_eq_getElem?_getD, List.getElem?_eq_getElem hj, ← e] <;> rfl
      rw [e3] at z
      exact z
    exact ⟨.int _, H, I.kept (t' := tk) hk, ⟨t, rfl⟩, by rw [← e]; exact q⟩
end
end Mi
/-! MiE: subscripts, truth, built-in functions, methods. -/
namespace Mi
open PySem PySem.Spec L2
section
variable {X : Cx} {cls : Nat → Value} {σ : L2.St} {H : Hp} {m : Pl} {st : Store}
theorem RD.sq {K : PySem.W.Frag} {d : D} {v : V} {xs : List D} (hS : SimS K H m st) (r : RD K H m d v) (e : look st d = .lst xs) : ∃ a vs, v = .ref a ∧ SqL K H a vs ∧ RDs K H m xs vs :=
  let ⟨a, vs, h1, h2, h3⟩ := look_lst hS r e
  ⟨a, vs, h1, .inl h2, h3⟩

/-! ### a[i] -/
theorem ixN_eq (n : Nat) (i : Int) : Mi.ixN n i = L2.ixN n i := rfl
theorem atI_rd {K : PySem.W.Frag} {ds : List D} {vs : List V} {i : Int} {d : D} (r : RDs K H m ds vs) (h : (Mi.ixN ds.length i).bind (ds[·]?) = some d) : ∃ v, atI vs i = some v ∧ RD K H m d v := by
  rw [ixN_eq, r.length] at h
  obtain ⟨j, e1, e2⟩ := Option.bind_eq_some_iff.mp h
  obtain ⟨v, e3, q⟩ := r.get e2
  exact ⟨v, by unfold atI; rw [e1]; exact e3, q⟩
theorem ixD (hu : X.A.units + 1 < cLine) : IxR X (rB X.K cls index) := by
  intro value slice pins s σ H x y v u Q I rx ry h hs
  obtain ⟨W, σ', m, st, d, e, hS, rd, re, hP⟩ := h
  unfold index at hP
  split at hP
  · next xs k hx =>
    obtain ⟨a, vs, rfl, ha, ra⟩ := RD.sq hS rd hx
    cases re
    split at hP
    · next z hz =>
      obtain ⟨w, hw, rw'⟩ := atI_rd ra hz
      exact ix_list value slice pins s σ H _ _ v u Q I rx ry ⟨a, vs, k, w, rfl, rfl, ha, hw, hP.here hS rw'⟩ hs
    · exact False.elim hP
  · next xs k hx =>
    cases look_tup hx
    obtain ⟨a, vs, rfl, ha, ra⟩ := rd_tup rd
    cases re
    split at hP
    · next z hz =>
      obtain ⟨w, hw, rw'⟩ := atI_rd ra hz
      exact ix_tup value slice pins s σ H _ _ v u Q I rx ry ⟨a, vs, k, w, rfl, rfl, ha, hw, hP.here hS rw'⟩ hs
    · exact False.elim hP
  · next z k hx =>
    cases look_str hx
    cases rd
    cases re
    split at hP
    · next hz =>
      split at hP
      · next c hc =>
        exact ix_str value slice pins s σ H _ _ v u Q I rx ry ⟨z, k, c, rfl, rfl, hz, hc, hP.here hS (.str _)⟩ hs
      · exact False.elim hP
    · exact False.elim hP
  · next l hx =>
    split at hP
    · next p k e1 e2 =>
      rw [← hx] at e1
      obtain ⟨a, ws, rfl, rfl, ha, hH, hk, hc⟩ := dct_look hS rd e1
      cases key_ok re e2
      split at hP
      · next dd hd =>
        rcases hk.val k with ⟨h1, h2⟩ | ⟨d, w, h1, h2, rw'⟩
        · rw [h1] at hd; cases hd
        · rw [h1] at hd
          cases hd
          cases (show v = Value.ref a from rx)
          have g : DGet H a (kV k) (some w) := by rw [← h2]; exact .k hH
          exact PyProof.Rows.tail_any (ops := [.ref a, u]) (dict_typeIs I g) PySem.F.slot_dict_getitem.lookup (d_getItem hu I g ry fun w' s3 I3 rw2 => ⟨w, H, I3, rw2, hP.here hS rw'⟩) hs
      · exact False.elim hP
    · split at hP
      · next p k e1 e2 =>
        rw [← hx] at e1
        obtain ⟨a, ws, rfl, rfl, ha, _, hH, hk, hc⟩ := dtt_look hS rd e1
        obtain ⟨b, rfl, eb⟩ := pk_look re e2
        split at hP
        · next dd hd =>
          rcases hk.val k with ⟨h1, h2⟩ | ⟨d, w, h1, h2, rw'⟩
          · rw [h1] at hd; cases hd
          · rw [h1] at hd
            cases hd
            cases (show v = Value.ref a from rx)
            have g : DGetX X.K H a (.ref b) (some w) := by rw [← h2]; exact .inr ⟨ws, k, b, hH, rfl, eb, rfl⟩
            exact PyProof.Rows.tail_any (ops := [.ref a, u]) (x_typeIs I g) PySem.F.slot_dict_getitem.lookup (x_getItem hu I g ry fun w' s3 I3 rw2 => ⟨w, H, I3, rw2, hP.here hS rw'⟩) hs
        · exact False.elim hP
      · exact False.elim hP
  · exact False.elim hP

/-! ### truth -/
theorem truth_ok {d : D} {v : V} {k : Bool} {K : PySem.W.Frag} (hS : SimS K H m st) (r : RD K H m d v) (h : truth st d = some k) : TruV K v H k := by
  unfold truth at h
  split at h
  · next e => cases look_non e; cases r; cases h; rfl
  · next e => cases look_bl e; cases r; cases h; rfl
  · next e => cases look_int e; cases r; cases h; rfl
  · next s e =>
    cases look_str e
    cases r
    split at h
    · next hz => cases h; exact ⟨hz, rfl⟩
    · cases h
  · next xs e =>
    obtain ⟨a, vs, rfl, ha, ra⟩ := RD.sq hS r e
    cases h
    exact .inl ⟨vs, ha, by rw [ra.isEmpty]⟩
  · next xs e =>
    cases look_tup e
    obtain ⟨a, vs, rfl, ha, ra⟩ := rd_tup r
    cases h
    exact .inr (.inl ⟨vs, ha, by rw [ra.isEmpty]⟩)
  · obtain ⟨p, e1, rfl⟩ := Option.map_eq_some_iff.mp h
    obtain ⟨a, ws, rfl, rfl, ha, hH, hk, hc⟩ := dct_look hS r e1
    refine .inr (.inr ⟨ws, hH, ?_⟩)
    have hl := hk.length
    generalize p.2 = kvs at hl
    cases kvs <;> cases ws <;> first | rfl | (simp at hl)

/-! ### built-in functions -/
def rP (K : PySem.W.Frag) (cls : Nat → Value) (f : List D → Store → R D) : List V → Hp → VK → Prop := fun xs H Q =>
  ∃ W σ m st ds, SimS K H m st ∧ RDs K H m ds xs ∧ Post K cls (relD K) W m H σ Q (f ds st)
theorem rds1 {K : PySem.W.Frag} {d : D} {xs : List V} (r : RDs K H m [d] xs) : ∃ v, xs = [v] ∧ RD K H m d v := by
  cases r with | cons h t => cases t; exact ⟨_, rfl, h⟩
theorem rds2 {K : PySem.W.Frag} {d e : D} {xs : List V} (r : RDs K H m [d, e] xs) : ∃ v w, xs = [v, w] ∧ RD K H m d v ∧ RD K H m e w := by
  cases r with | cons h t => cases t with | cons h' t => cases t; exact ⟨_, _, rfl, h, h'⟩
theorem rds0 {K : PySem.W.Frag} {xs : List V} (r : RDs K H m [] xs) : xs = [] := by cases r; rfl
theorem ints_rd {K : PySem.W.Frag} : ∀ {ds : List D} {ns : List Int} {vs : List V}, RDs K H m ds vs → intsD ds = some ns → vs = ns.map V.int
  | [], ns, vs, r, h => by cases r; cases h; rfl
  | d :: ds, ns, vs, r, h => by
    cases r with
    | cons r1 r2 =>
      cases d with
      | int i =>
        simp only [intsD, Option.map_eq_some_iff] at h
        obtain ⟨ms, h, rfl⟩ := h
        cases r1
        rw [ints_rd r2 h]; rfl
      | _ => cases h
theorem bools_rd {K : PySem.W.Frag} : ∀ {ds : List D} {ns : List Bool} {vs : List V}, RDs K H m ds vs → boolsD ds = some ns → vs = ns.map V.bl
  | [], ns, vs, r, h => by cases r; cases h; rfl
  | d :: ds, ns, vs, r, h => by
    cases r with
    | cons r1 r2 =>
      cases d with
      | bl i =>
        simp only [boolsD, Option.map_eq_some_iff] at h
        obtain ⟨ms, h, rfl⟩ := h
        cases r1
        rw [bools_rd r2 h]; rfl
      | _ => cases h
def prmV : Prm → Option Value
  | .len => some (.builtin "len") | .int => some (.type "int") | .bool => some (.type "bool") | .abs => some (.builtin "abs") | .max => some (.builtin "max") | .min => some (.builtin "min")
  | .sum => some (.builtin "sum") | .all => some (.builtin "all") | .any => some (.builtin "any") | .sorted => some (.builtin "sorted") | .dict => some (.type "dict") | .str => some (.type "str") | .list => some (.type "list") | .tuple => some (.type "tuple") | .repr => some (.builtin "repr") | _ => none
theorem items_ok {K : PySem.W.Frag} {d : D} {v : V} {xs : List D} (hS : SimS K H m st) (r : RD K H m d v) (h : items st d = some xs) : ∃ a vs, v = .ref a ∧ RDs K H m xs vs ∧ ((SqL K H a vs) ∨ (SqT K H a vs ∧ d = .tup xs)) := by
  unfold items at h
  split at h
  · next ys e =>
    cases h
    obtain ⟨a, vs, rfl, ha, ra⟩ := RD.sq hS r e
    exact ⟨a, vs, rfl, ra, .inl ha⟩
  · next ys e =>
    cases h
    cases look_tup e
    obtain ⟨a, vs, rfl, ha, ra⟩ := rd_tup r
    exact ⟨a, vs, rfl, ra, .inr ⟨ha, rfl⟩⟩
  · cases h
/-- a list of pairs, seen as a dict's -/
theorem pairT_rd {K : PySem.W.Frag} : ∀ {xs : List D} {vs : List V} {kvs : List (Key × D)}, RDs K H m xs vs → pairT xs = some kvs → ∃ (ps : List Addr) (ws : List (Key × V)), vs = ps.map V.ref ∧ KVR K H m kvs ws ∧ PySem.Paired (fun p kv => SqT K H p [kV kv.1, kv.2]) ps ws
  | [], _, kvs, .nil, h => by cases h; exact ⟨[], [], rfl, .nil, .nil⟩
  | d :: xs, _, kvs, .cons r t, h => by
    unfold pairT at h
    split at h
    · next e => cases e
    · next k v r2 e =>
      cases e
      split at h
      · next x q e1 e2 =>
        cases h
        obtain ⟨ps, ws, rfl, kr, pr⟩ := pairT_rd t e2
        obtain ⟨a, us, rfl, ha, ra⟩ := rd_tup r
        obtain ⟨y, z, rfl, ry, rz⟩ := rds2 ra
        cases key_ok ry e1
        exact ⟨a :: ps, (x, z) :: ws, rfl, kr.cons rz, .cons ha pr⟩
      · cases h
    · cases h
theorem pairPT_rd {K : PySem.W.Frag} : ∀ {xs : List D} {vs : List V} {kvs : List (List Key × D)}, RDs K H m xs vs → pairPT xs = some kvs → ∃ (ps : List Addr) (ws : List (List Key × V)), vs = ps.map V.ref ∧ KVR K H m kvs ws ∧ PySem.Paired (PairP K H) ps ws
  | [], _, kvs, .nil, h => by cases h; exact ⟨[], [], rfl, .nil, .nil⟩
  | d :: xs, _, kvs, .cons r t, h => by
    unfold pairPT at h
    split at h
    · next e => cases e
    · next k v r2 e =>
      cases e
      split at h
      · next x q e1 e2 =>
        cases h
        obtain ⟨ps, ws, rfl, kr, pr⟩ := pairPT_rd t e2
        obtain ⟨a, us, rfl, ha, ra⟩ := rd_tup r
        obtain ⟨y, z, rfl, ry, rz⟩ := rds2 ra
        obtain ⟨b, rfl, eb, _⟩ := pk_ok ry e1
        exact ⟨a :: ps, (x, z) :: ws, rfl, kr.cons rz, .cons ⟨b, ha, eb⟩ pr⟩
      · cases h
    · cases h
theorem pairT_y : ∀ {xs : List D} {kvs : List (Key × D)}, pairT xs = some kvs → pairy xs = true
  | [], _, _ => rfl
  | d :: xs, kvs, h => by
    unfold pairT at h
    split at h
    · next e => cases e
    · next k v r e =>
      cases e
      split at h
      · next x q e1 e2 =>
        have ih := pairT_y e2
        unfold pairy at ih ⊢
        rw [List.all_cons, ih, Bool.and_true]
        cases k <;> first | rfl | cases e1
      · cases h
    · cases h
theorem pairPT_y : ∀ {xs : List D} {kvs : List (List Key × D)}, pairPT xs = some kvs → pairy xs = true
  | [], _, _ => rfl
  | d :: xs, kvs, h => by
    unfold pairPT at h
    split at h
    · next e => cases e
    · next k v r e =>
      cases e
      split at h
      · next x q e1 e2 =>
        have ih := pairPT_y e2
        unfold pairy at ih ⊢
        rw [List.all_cons, ih, Bool.and_true]
        unfold pkS at e1
        split at e1
        · rfl
        · cases e1
      · cases h
    · cases h
theorem newK {W : WX} {Q : VK} (hS : SimS X.K H m st) {p : Addr} (hp : H p = none) {kvs : List (Key × D)} {ws : List (Key × V)} (kr : KVR X.K H m kvs ws) (hP : Post X.K cls (relD X.K) W m H σ Q (.ok (.loc st.length) (st ++ [.dk (dmerge [] kvs)]))) : Q (.ref p) (upd H p (.dK (mergeK [] ws))) := by
  refine hP (m.push p) _ _ (Ext.newcell hS hp) (hS.newcellC hp fun x => ?_) (.loc ?_)
  · have mg := KVR.merge KVR.nil kr
    exact ⟨_, upd_same, mg.1, mg.2.mono hS.cells x⟩
  · rw [← hS.len]; simp [Pl.push]
theorem newT {W : WX} {Q : VK} (hS : SimS X.K H m st) {p : Addr} (hp : H p = none) {kvs : List (List Key × D)} {ws : List (List Key × V)} (h1 : 1 ≤ kvs.length) (kr : KVR X.K H m kvs ws) (hP : Post X.K cls (relD X.K) W m H σ Q (.ok (.loc st.length) (st ++ [.dt (dmerge [] kvs)]))) : Q (.ref p) (upd H p (.dT (mergeP [] ws))) := by
  refine hP (m.push p) _ _ (Ext.newcell hS hp) (hS.newcellC hp fun x => ?_) (.loc ?_)
  · have mg := KVR.mergeP KVR.nil kr
    refine ⟨_, mergeP_ne ws [] (.inr fun e => ?_), upd_same, mg.1, mg.2.mono hS.cells x⟩
    have := kr.length
    rw [e] at this
    simp at this; omega
  · rw [← hS.len]; simp [Pl.push]
/-- repr(x) of data -/
theorem repr_rule (hu : X.A.units + 64 < cLine) (gd : X.A.guards = some []) {pins : List (Addr × Obj)} {s : Shared} {d : D} {v : V} {u : Value} {Q : VK} (I : L2.Inv X pins σ H s) (hS : SimS X.K H m st) (rd : RD X.K H m d v) (ru : L2.RelV v u) (hk : showOk (deep st d) = true)
    (q : Q (.str (PyData.shown (toPy (deep st d)))) H) : wpAny (model X.prog X.w) X.A (call (.builtin "repr") [u]) (EP X pins σ Q) X.xe s := by
  unfold deep at hk q
  simp only [showOk, Bool.and_eq_true, decide_eq_true_eq] at hk
  obtain ⟨k0, k1, k2, k3, k4, k5⟩ := hk
  have dp := deep_dp hS 12 rd k1
  have ha : ∃ a, v = .ref a := by
    cases rd with
    | tup h r => exact ⟨_, rfl⟩
    | lst h r => exact ⟨_, rfl⟩
    | loc h => exact ⟨_, rfl⟩
    | odd h => cases k0
    | _ => cases k0
  obtain ⟨a, rfl⟩ := ha
  cases (show u = Value.ref a from ru)
  obtain ⟨as, r1⟩ := Dp.reads I _ _ _ dp rfl
  exact PySem.repr_of_reads' r1 k3 (PyData.noDict_hsm (PyData.hasDict_of_layable k2)) gd (by omega) (fun _ _ e => e) (fun h' w' tk hk' => ⟨.str _, H, I.kept (t' := tk) hk', ⟨_, rfl⟩, q⟩) (PyData.shown_fits_of_layable0 (B := 13) (by decide) (by decide) k2 k4)
theorem prmD (hu : X.A.units + 64 < cLine) (gd : X.A.guards = some []) {p : Prm} {fz : Bool} {f : Value} (hc : X.calm = true) (hf : prmV p = some f) : CallR X f (rP X.K cls (prim p fz)) := by
  intro pins s σ H xs us Q I rx h
  obtain ⟨W, σ', m, st, ds, hS, rds, hP⟩ := h
  unfold prim at hP
  split at hP
  · next d =>
    cases hf
    obtain ⟨v, rfl, rd⟩ := rds1 rds
    split at hP
    · next z e =>
      cases look_str e; cases rd
      split at hP
      · next hz => exact call_len pins s σ H _ us Q I rx ⟨_, z.length, rfl, ⟨hz, rfl⟩, hP.here hS (.int _)⟩
      · exact False.elim hP
    · next ys e =>
      obtain ⟨a, vs, rfl, ha, ra⟩ := RD.sq hS rd e
      exact call_len pins s σ H _ us Q I rx ⟨_, vs.length, rfl, .inl ⟨vs, ha, rfl⟩, by rw [← ra.length]; exact hP.here hS (.int _)⟩
    · next ys e =>
      cases look_tup e
      obtain ⟨a, vs, rfl, ha, ra⟩ := rd_tup rd
      exact call_len pins s σ H _ us Q I rx ⟨_, vs.length, rfl, .inr ⟨vs, ha, rfl⟩, by rw [← ra.length]; exact hP.here hS (.int _)⟩
    · split at hP
      · next p e1 =>
        obtain ⟨a, ws, rfl, rfl, ha, hH, hk, hc⟩ := dct_look hS rd e1
        obtain ⟨u, rfl, ru⟩ := vals1 rx
        cases (show u = Value.ref a from ru)
        exact d_len I (.inl hH) fun t s' I' => ⟨.int p.2.length, H, I', ⟨t, by rw [← hk.length]⟩, hP.here hS (.int _)⟩
      · split at hP
        · next p e1 =>
          obtain ⟨a, ws, rfl, rfl, ha, _, hH, hk, hc⟩ := dtt_look hS rd e1
          exact call_len_dT pins s σ H _ us Q I rx ⟨a, ws, rfl, hH, by rw [hk.length]; exact hP.here hS (.int _)⟩
        · exact False.elim hP
  · next i =>
    cases hf
    obtain ⟨v, rfl, rd⟩ := rds1 rds
    cases rd
    exact call_int1 pins s σ H _ us Q I rx (.inl ⟨i, rfl, hP.here hS (.int _)⟩)
  · next k =>
    cases hf
    obtain ⟨v, rfl, rd⟩ := rds1 rds
    cases rd
    exact call_int1 pins s σ H _ us Q I rx (.inr ⟨k, rfl, hP.here hS (.int _)⟩)
  · next z =>
    cases hf
    obtain ⟨v, rfl, rd⟩ := rds1 rds
    cases rd
    split at hP
    · next i hi =>
      split at hP
      · next hz => exact call_int_str pins s σ H _ us Q I rx ⟨z, i, rfl, hi, hz, hP.here hS (.int _)⟩
      · exact False.elim hP
    · exact False.elim hP
  · next b =>
    cases hf
    obtain ⟨v, rfl, rd⟩ := rds1 rds
    cases rd
    obtain ⟨u, rfl, ru⟩ := vals1 rx
    cases (show u = Value.bool b from ru)
    exact PySem.P.repr_of_bool ⟨.str (if b then "True" else "False"), H, I.tok _, ⟨_, rfl⟩, hP.here hS (.str _)⟩
  · next d =>
    cases hf
    obtain ⟨v, rfl, rd⟩ := rds1 rds
    split at hP
    · next hk =>
      obtain ⟨u, rfl, ru⟩ := vals1 rx
      exact repr_rule hu gd I hS rd ru hk (hP.here hS (.str _))
    · exact False.elim hP
  · next i =>
    cases hf
    obtain ⟨v, rfl, rd⟩ := rds1 rds
    cases rd
    exact call_bool1 pins s σ H _ us Q I rx (.inl ⟨i, rfl, hP.here hS (.bl _)⟩)
  · next k =>
    cases hf
    obtain ⟨v, rfl, rd⟩ := rds1 rds
    cases rd
    exact call_bool1 pins s σ H _ us Q I rx (.inr ⟨k, rfl, hP.here hS (.bl _)⟩)
  · next i =>
    cases hf
    obtain ⟨v, rfl, rd⟩ := rds1 rds
    cases rd
    exact call_abs pins s σ H _ us Q I rx ⟨i, rfl, hP.here hS (.int _)⟩
  · next i j =>
    cases hf
    obtain ⟨v, w, rfl, rd, re⟩ := rds2 rds
    cases rd; cases re
    exact call_max2 hc pins s σ H _ us Q I rx ⟨i, j, rfl, hP.here hS (.int _)⟩
  · next i j =>
    cases hf
    obtain ⟨v, w, rfl, rd, re⟩ := rds2 rds
    cases rd; cases re
    exact call_min2 hc pins s σ H _ us Q I rx ⟨i, j, rfl, hP.here hS (.int _)⟩
  · next d =>
    cases hf
    obtain ⟨v, rfl, rd⟩ := rds1 rds
    split at hP
    · next ys e =>
      obtain ⟨a, vs, rfl, ha, ra⟩ := RD.sq hS rd e
      split at hP
      · next ns hn =>
        cases ints_rd ra hn
        exact cr_sum hc pins s σ H _ us Q I rx ⟨a, ns, rfl, ha, hP.here hS (.int _)⟩
      · exact False.elim hP
    · exact False.elim hP
  · next d =>
    cases hf
    obtain ⟨v, rfl, rd⟩ := rds1 rds
    split at hP
    · next ys e =>
      obtain ⟨a, vs, rfl, ha, ra⟩ := RD.sq hS rd e
      split at hP
      · next ns hn =>
        cases bools_rd ra hn
        exact cr_all hc pins s σ H _ us Q I rx ⟨a, ns, rfl, ha, hP.here hS (.bl _)⟩
      · exact False.elim hP
    · exact False.elim hP
  · next d =>
    cases hf
    obtain ⟨v, rfl, rd⟩ := rds1 rds
    split at hP
    · next ys e =>
      obtain ⟨a, vs, rfl, ha, ra⟩ := RD.sq hS rd e
      split at hP
      · next ns hn =>
        cases bools_rd ra hn
        exact cr_any hc pins s σ H _ us Q I rx ⟨a, ns, rfl, ha, hP.here hS (.bl _)⟩
      · exact False.elim hP
    · exact False.elim hP
  · next d =>
    cases hf
    obtain ⟨v, rfl, rd⟩ := rds1 rds
    split at hP
    · next ys e =>
      obtain ⟨a, vs, rfl, ra, ha⟩ := items_ok hS rd e
      obtain ⟨hz, q⟩ := hP.made hS ra
      exact call_list_of pins s σ H _ us Q I rx ⟨a, vs, rfl, ha.imp id (fun z => z.1), q⟩
    · exact False.elim hP
  · next d =>
    cases hf
    obtain ⟨v, rfl, rd⟩ := rds1 rds
    split at hP
    · next ys e =>
      obtain ⟨a, vs, rfl, ra, ha⟩ := items_ok hS rd e
      rcases ha with ha | ⟨ha, rfl⟩
      · exact call_tupN pins s σ H _ us Q I rx ⟨a, vs, rfl, .inl ⟨ha, hP.tupleN hS ra⟩⟩
      · exact call_tupN pins s σ H _ us Q I rx ⟨a, vs, rfl, .inr ⟨ha, hP.here hS (by assumption)⟩⟩
    · exact False.elim hP
  · next d =>
    cases hf
    obtain ⟨v, rfl, rd⟩ := rds1 rds
    split at hP
    · next ys e =>
      split at hP
      · next hk =>
        obtain ⟨a, vs, rfl, ha, ra⟩ := RD.sq hS rd e
        obtain ⟨u, rfl, ru⟩ := vals1 rx
        exact srt_rule hu I ru ha ra hk fun ws rw' => hP.made hS rw'
      · split at hP
        · next hk =>
          obtain ⟨a, vs, rfl, ha, ra⟩ := RD.sq hS rd e
          obtain ⟨u, rfl, ru⟩ := vals1 rx
          exact srt_heads hu I ru ha ra hk fun ws rw' => hP.made hS rw'
        · exact False.elim hP
    · split at hP
      · next p e1 =>
        obtain ⟨a, ws, rfl, rfl, ha, hH, hk, hc2⟩ := dct_look hS rd e1
        split at hP
        · next ok =>
          obtain ⟨u, rfl, ru⟩ := vals1 rx
          cases (show u = Value.ref a from ru)
          exact srt_dict hc hu I hH hk ok fun vs rv => hP.made hS rv
        · exact False.elim hP
      · split at hP
        · next p e1 =>
          obtain ⟨a, ws, rfl, rfl, ha, _, hH, hk, hc2⟩ := dtt_look hS rd e1
          split at hP
          · next ok =>
            obtain ⟨u, rfl, ru⟩ := vals1 rx
            cases (show u = Value.ref a from ru)
            rw [Bool.and_eq_true] at ok
            exact srt_dictT hc hu I hH hk ok.1 (fun p hp e => by
              have q := List.all_eq_true.mp ok.2 p hp
              rw [e] at q; cases q) fun vs rv => hP.made hS rv
          · exact False.elim hP
        · exact False.elim hP
  · next d =>
    cases hf
    obtain ⟨v, rfl, rd⟩ := rds1 rds
    split at hP
    · next ys e =>
      obtain ⟨a, vs, rfl, ha, ra⟩ := RD.sq hS rd e
      split at hP
      · next kvs hk =>
        split at hP
        · next hz =>
          obtain ⟨ps, ws, rfl, kr, pr⟩ := pairT_rd ra hk
          exact call_dictP hc pins s σ H _ us Q I rx ⟨a, ps, ws, rfl, ha, pr, fun p hp => newK hS hp kr hP⟩
        · exact False.elim hP
      · split at hP
        · next kvs hk =>
          split at hP
          · next hz =>
            obtain ⟨ps, ws, rfl, kr, pr⟩ := pairPT_rd ra hk
            exact call_dictPT hc hu pins s σ H _ us Q I rx ⟨a, ps, ws, rfl, .inl ha, pr, fun p hp => newT hS hp hz.1 kr hP⟩
          · exact False.elim hP
        · exact False.elim hP
    · next ys e =>
      cases look_tup e
      split at hP
      · next kvs hk =>
        split at hP
        · next hz =>
          obtain ⟨a, vs, rfl, ha, ra⟩ := rd_plain rd (pairT_y hk)
          obtain ⟨ps, ws, rfl, kr, pr⟩ := pairT_rd ra hk
          exact call_dictPK hc pins s σ H _ us Q I rx ⟨a, ps, ws, rfl, ha, pr, fun p hp => newK hS hp kr hP⟩
        · exact False.elim hP
      · split at hP
        · next kvs hk =>
          split at hP
          · next hz =>
            obtain ⟨a, vs, rfl, ha, ra⟩ := rd_plain rd (pairPT_y hk)
            obtain ⟨ps, ws, rfl, kr, pr⟩ := pairPT_rd ra hk
            exact call_dictPT hc hu pins s σ H _ us Q I rx ⟨a, ps, ws, rfl, .inr ha, pr, fun p hp => newT hS hp hz.1 kr hP⟩
          · exact False.elim hP
        · exact False.elim hP
    · split at hP
      · next p e1 =>
        obtain ⟨a, ws, rfl, rfl, ha, hH, hk, hc2⟩ := dct_look hS rd e1
        obtain ⟨u, rfl, ru⟩ := vals1 rx
        cases (show u = Value.ref a from ru)
        refine d_copyOf I (.inl hH) fun b s' hb I' => ⟨.ref b, _, I', rfl, ?_⟩
        refine hP (m.push b) _ _ (Ext.newcell hS hb) (hS.newcellC hb fun x => ⟨_, upd_same, hk.1, hk.2.mono hS.cells x⟩) (.loc ?_)
        rw [← hS.len]; simp [Pl.push]
      · exact False.elim hP
  · next i =>
    cases hf
    obtain ⟨v, rfl, rd⟩ := rds1 rds
    cases rd
    split at hP
    · next hz => exact call_str_int pins s σ H _ us Q I rx ⟨i, rfl, hz, hP.here hS (.str _)⟩
    · exact False.elim hP
  · next z =>
    cases hf
    obtain ⟨v, rfl, rd⟩ := rds1 rds
    cases rd
    exact SkE.call_str_str pins s σ H _ us Q I rx ⟨z, rfl, hP.here hS (.str _)⟩
  · exact False.elim hP
end
end Mi
/-! MiS: parts of lists, tuples, texts; backwards. -/
namespace Mi
open PySem PySem.Spec L2 PyProof.Rows
section
variable {X : Cx} {cls : Nat → Value}
def rSl (K : PySem.W.Frag) (cls : Nat → Value) (f : D → Option Int → Option Int → Store → R D) : V → Option Int → Option Int → Hp → VK → Prop := fun x lo hi H Q =>
  ∃ (W : WX) (σ : L2.St) (m : Pl) (st : Store) (d : D), SimS K H m st ∧ RD K H m d x ∧ Post K cls (relD K) W m H σ Q (f d lo hi st)
theorem cut_whole {ds : List D} {lo hi : Option Int} (h : HT.sIx ds.length 0 lo = 0 ∧ HT.sIx ds.length ds.length hi = ds.length) : Mi.cut ds lo hi = ds := by
  have e1 : Mi.sIx ds.length 0 lo = 0 := h.1
  have e2 : Mi.sIx ds.length ds.length hi = ds.length := h.2
  unfold Mi.cut
  rw [e1, e2]; simp
/-- t[lo:hi], known as a tuple or as a plain one -/
theorem sl_tupN : SlR X (fun x lo hi H Q => ∃ a xs, x = .ref a ∧ SqT X.K H a xs ∧ (HT.sIx xs.length 0 lo = 0 ∧ HT.sIx xs.length xs.length hi = xs.length → Q (.ref a) H) ∧
    (¬ (HT.sIx xs.length 0 lo = 0 ∧ HT.sIx xs.length xs.length hi = xs.length) → TNew Q H (cutV xs lo hi))) := by
  intro pins s σ H x v vl vu lo hi sl Q I rx hs pl pu h
  obtain ⟨a, xs, rfl, hx, q1, q2⟩ := h
  cases rx
  obtain ⟨its, r, ht, hz⟩ := I.tuple hx
  have len : its.toArray.size = xs.length := by rw [List.size_toArray, r.length]
  refine ⟨"tuple", _, slot_tuple_getitem.lookup, ht.typeIs, ?_⟩
  by_cases hw : HT.sIx xs.length 0 lo = 0 ∧ HT.sIx xs.length xs.length hi = xs.length
  · exact getItem_tuple_whole ht hs pl pu (by rw [len]; exact hw) ⟨.ref a, H, I, rfl, q1 hw⟩
  · refine HT.getItem_tuple_cut ht hs pl pu (by rw [len]; exact hw) ?_ (by rw [len]; exact hz)
    rw [len]
    exact laidN I (Nat.le_trans (cutV_length xs lo hi) hz) ((r.drop (HT.sIx xs.length 0 lo)).take (HT.sIx xs.length xs.length hi - HT.sIx xs.length 0 lo)) (q2 hw)
theorem slD {fz : Bool} : SlR X (rSl X.K cls (slice fz)) := by
  intro pins s σ H x v vl vu lo hi sl Q I rx hs pl pu h
  obtain ⟨W, σ', m, st, d, hS, rd, hP⟩ := h
  unfold slice at hP
  split at hP
  · next xs hx =>
    obtain ⟨a, vs, rfl, ha, ra⟩ := RD.sq hS rd hx
    exact sl_list pins s σ H _ v vl vu lo hi sl Q I rx hs pl pu ⟨a, vs, rfl, ha, (hP.made hS (ra.cut lo hi)).2⟩
  · next xs hx =>
    cases look_tup hx
    obtain ⟨a, vs, rfl, ha, ra⟩ := rd_tup rd
    refine sl_tupN pins s σ H _ v vl vu lo hi sl Q I rx hs pl pu ⟨a, vs, rfl, ha, fun hw => ?_, fun _ => hP.tupleN hS (ra.cut lo hi)⟩
    rw [← ra.length] at hw
    rw [cut_whole hw] at hP
    exact hP.here hS (by assumption)
  · next z hx =>
    cases look_str hx
    cases rd
    split at hP
    · next hz => exact sl_str pins s σ H _ v vl vu lo hi sl Q I rx hs pl pu ⟨z, rfl, hz, hP.here hS (.str _)⟩
    · exact False.elim hP
  · exact False.elim hP

/-! ### [::-1] -/
def revE (e : Expr) (k : Nat) (p1 p2 p3 pos : Pos) : Expr := .Subscript e (.Slice none none (some (.UnaryOp .USub (.Constant (.int 1) k p1) p2)) p3) pos
theorem places_rev (n : Nat) : Builtin.Slice.slicePlaces ((n : Int) - 1) (-1) (-1) = n := by
  unfold Builtin.Slice.slicePlaces
  simp
  omega
theorem adjust_rev (n : Nat) : Builtin.Slice.sliceAdjust none none (-1) (n : Int) = ((n : Int) - 1, -1) := by
  unfold Builtin.Slice.sliceAdjust
  simp
theorem pick_rev (xs : Array Value) : ((List.range xs.size).filterMap fun (k : Nat) => xs[(((xs.size : Int) - 1) + (k : Int) * (-1)).toNat]?).toArray = xs.toList.reverse.toArray := by
  have e : (fun (k : Nat) => xs[(((xs.size : Int) - 1) + (k : Int) * (-1)).toNat]?) = (fun j => xs[j]?) ∘ fun k => xs.size - 1 - k := by
    funext k
    have : (((xs.size : Int) - 1) + (k : Int) * (-1)).toNat = xs.size - 1 - k := by omega
    simp only [Function.comp, this]
  rw [e, ← List.filterMap_map, PySem.W.krv_range, List.filterMap_reverse, PySem.W.krv_all]
theorem applied_rev {prog : Program} {w : World} {A : Around} {E : Value → Shared → Prop} {s : Shared} {sl : Addr} {n : Nat} {u : Tok} {Q : Int × Int × Nat → Shared → Prop} (hs : s.heap.IsSliceOf sl .none .none (.int (-1) u)) (h : Q (((n : Nat) : Int) - 1, -1, n) s) :
    wpAny (model prog w) A (Builtin.Slice.sliceApplied (.ref sl) (pure (n : Int))) Q E s := by
  obtain ⟨os, hos, hcs, hds⟩ := id hs
  unfold Builtin.Slice.sliceApplied Builtin.Slice.sliceFields
  refine wpAny_bind (wpAny_bind (wpAny_field hos hds (x := .none) rfl (wpAny_bind (wpAny_field hos hds (x := .none) rfl (wpAny_bind (wpAny_field hos hds (x := .int (-1) u) rfl (wpAny_pure ?_)))))))
  refine wpAny_bind (PyProof.Rows.slicePart_int ?_)
  show wpAny _ _ (if ((-1 : Int) == 0) = true then _ else _) _ _ s
  rw [if_neg (by decide)]
  refine wpAny_bind (PyProof.Rows.slicePart_none (wpAny_bind (PyProof.Rows.slicePart_none (wpAny_bind (wpAny_pure ?_)))))
  show wpAny _ _ (match Builtin.Slice.sliceAdjust none none (-1) (n : Int) with | (lo, hi) => pure (lo, (-1 : Int), Builtin.Slice.slicePlaces lo hi (-1))) _ _ s
  rw [adjust_rev n]
  show wpAny _ _ (pure (((n : Nat) : Int) - 1, (-1 : Int), Builtin.Slice.slicePlaces (((n : Nat) : Int) - 1) (-1) (-1))) _ _ s
  rw [places_rev]
  exact wpAny_pure h
/-- a tuple backwards -/
theorem tup_rev {prog : Program} {w : World} {A : Around} {E : Value → Shared → Prop} {s : Shared} {t sl : Addr} {items : Array Value} {u : Tok} {Q : Value → Shared → Prop} (ht : PyProof.Rows.IsTup s.heap t items) (hs : s.heap.IsSliceOf sl .none .none (.int (-1) u))
    (h : Q (.ref s.heap.objs.size) { s with heap := s.heap.push { cls := .type "tuple", data := .seq items.toList.reverse.toArray } }) (hsz : items.size ≤ sizeLine) : wpAny (model prog w) A (getItem (.ref t) (.ref sl)) Q E s := by
  have hk : sizeOk (.seq items.toList.reverse.toArray) := by
    show items.toList.reverse.toArray.size ≤ sizeLine
    simpa using hsz
  obtain ⟨os, hos, hcs, hds⟩ := id hs
  have isS : s.TypeIs (.ref sl) "slice" := ⟨os, hos, hcs⟩
  unfold getItem
  try with_reducible refine wpAny_holding ?_
  first | (refine wpAny_bind (wpAny_pure ?_)) | skip
  refine wpAny_bind (wpAny_sequenceKey (show s.TypeIs (.ref t) "tuple" from ht.typeIs) (by decide) ?_)
  refine wpAny_bind (wpAny_callSpecial?_slot (name := Str.ofString "__getitem__") (show s.TypeIs (.ref t) "tuple" from ht.typeIs) PyProof.Rows.slot_tuple_getitem (wpAny_call_entry PyProof.Rows.slot_tuple_getitem ht.typeIs PyProof.Rows.entry_tuple_getitem ?_ (PyProof.Rows.args_tuple_getitem _ _)))
  show wpAny _ _ (Builtin.Tuple.tupleItemsOf (.ref t) >>= _) _ _ s
  refine wpAny_bind (PyProof.Rows.tupleItemsOf_ ht (wpAny_bind (wpAny_typeOf isS ?_)))
  rw [if_pos (by decide)]
  refine wpAny_bind (applied_rev hs ?_)
  have hno : ¬ ((((items.size : Nat) : Int) - 1 == 0 && (-1 : Int) == 1 && items.size == items.size) = true) := by
    rw [show ((-1 : Int) == 1) = false from rfl]
    simp
  dsimp only
  rw [if_neg hno, pick_rev]
  first
    | exact wpAny_bind (m := Builtin.Tuple.tupleExact _) (wpAny_newObj_type (wpAny_pure ⟨_, rfl, wpAny_pure h⟩) hk)
    | exact wpAny_bind (wpAny_bind (m := Builtin.Tuple.tupleExact _) (wpAny_newObj_type (wpAny_pure ⟨_, rfl, wpAny_pure h⟩) hk))
theorem str_picks (n : Nat) : Builtin.Str.strSliceIndices none none (-1) n = (List.range n).reverse := by
  unfold Builtin.Str.strSliceIndices
  simp only [show ¬ ((-1 : Int) > 0) by decide, if_false]
  rw [PySem.W.krv_sliceRange, PySem.W.krv_range]
/-- what is wanted behind e[::-1] -/
def bRev (K : PySem.W.Frag) (x : V) (H : Hp) (Q : VK) : Prop :=
  (∃ a xs, x = .ref a ∧ SqL K H a xs ∧ ∀ p, H p = none → Q (.ref p) (upd H p (.lst xs.reverse))) ∨ (∃ a xs, x = .ref a ∧ SqT K H a xs ∧ TNew Q H xs.reverse) ∨
    ∃ z : Str, x = .str z ∧ z.length ≤ sizeLine ∧ Q (.str ⟨z.cps.toList.reverse.toArray⟩) H
theorem pe_rev3 {e : Expr} {te : TE} {k : Nat} {p1 p2 p3 pos : Pos} (he : PE X e te) : PE X (revE e k p1 p2 p3 pos) (fun σ H Q => te σ H fun x H1 => bRev X.K x H1 Q) := by
  refine ⟨fun pins s σ H Q I h => Subscript_ (thn (he.run pins s σ H _ I h) fun v s1 ⟨x, H1, I1, r1, q1⟩ => ?_)⟩
  have hst : PO X (some (.UnaryOp .USub (.Constant (.int 1) k p1) p2)) (tPart (tUn (rU fun i => .int (-i)) (tC (.int 1)))) := po_some (pe_un un_neg pe_int)
  refine wpAny_Slice (thn (po_none.run pins s1 σ H1 (fun o H2 => o = none ∧ H2 = H1) I1 ⟨rfl, rfl⟩) fun vl s2 ⟨l, H2, I2, pl, el, e2⟩ => ?_)
  subst el e2
  refine thn (po_none.run pins s2 σ H2 (fun o Hz => o = none ∧ Hz = H2) I2 ⟨rfl, rfl⟩) fun vu s3 ⟨u, H3, I3, pu, eu, e3⟩ => ?_
  subst eu e3
  refine thn (hst.run pins s3 σ H3 (fun o Hz => o = some (-1) ∧ Hz = H3) I3 ⟨1, rfl, -1, rfl, rfl, rfl⟩) fun vs s4 ⟨o, H4, I4, ps, eo, e4⟩ => ?_
  subst eo e4
  cases pl
  cases pu
  cases ps with
  | int j tk =>
  have I5 : Inv X pins σ H4 { s4 with heap := s4.heap.push { cls := .type "slice", data := .fields #[.none, .none, .int (-1) tk] } } := I4.kept (t' := s4.toks) fun b ob q => Heap.get?_push_of_some _ q
  show wpAny (model X.prog X.w) X.A (subscriptTail e (.Slice none none (some (.UnaryOp .USub (.Constant (.int 1) k p1) p2)) p3) v (.ref s4.heap.objs.size)) (EP X pins σ Q) X.xe { s4 with heap := s4.heap.push { cls := .type "slice", data := .fields #[.none, .none, .int (-1) tk] } }
  rcases q1 with ⟨a, xs, rfl, hx, q⟩ | ⟨a, xs, rfl, hx, q⟩ | ⟨z, rfl, hz, q⟩
  · cases r1
    obtain ⟨its, r, ht, hz⟩ := I5.list hx
    have hlen := r.length
    refine tail_any (ops := [.ref a, .ref s4.heap.objs.size]) ht.isList.typeIs (PySem.slot_list_getitem.lookup) ?_ (by with_unfolding_all rfl)
    refine wpAny_getItem_list_slice ht.isList (Heap.IsSliceOf.new _ .none .none (.int (-1) tk)) .none .none (.int (-1) tk) (by decide) ?_ (by rw [List.size_toArray]; omega)
    rw [PySem.W.krv_pick]
    refine ⟨.ref _, _, I5.laid (t' := s4.toks) (o := .lst xs.reverse) (fun b ob q => Heap.get?_push_of_some _ q) (Nat.le_refl _) ?_, rfl, q _ (I5.hok.fresh (Nat.le_refl _))⟩
    exact ⟨by simpa using hz, _, 0, r.reverse, Heap.get?_push_size _ rfl⟩
  · cases r1
    obtain ⟨its, r, ht, hz⟩ := I5.tuple hx
    have hlen := r.length
    refine tail_any (ops := [.ref a, .ref s4.heap.objs.size]) (show Shared.TypeIs _ (.ref a) "tuple" from ht.typeIs) (PyProof.Rows.slot_tuple_getitem.lookup) ?_ (by with_unfolding_all rfl)
    refine tup_rev ht (Heap.IsSliceOf.new _ .none .none (.int (-1) tk)) ?_ (by rw [List.size_toArray]; omega)
    exact laidN I5 (by simpa using hz) r.reverse q
  · obtain ⟨t, rfl⟩ := r1
    refine tail_any (ops := [.str z t, .ref s4.heap.objs.size]) (typeIs_str _ z t) (F.slot_str_getitem.lookup) ?_ (by with_unfolding_all rfl)
    refine wpAny_getItem_str_slice (l := none) (u := none) (st := some (-1, tk)) ⟨_, Heap.get?_push_size _ rfl, rfl, rfl⟩ rfl ?_
    have e1 : ((List.range z.length).reverse.filterMap (z.cps[·]?)) = z.cps.toList.reverse := by
      rw [List.filterMap_reverse]
      exact congrArg List.reverse (PySem.W.krv_all z.cps)
    show Made.post (if ((-1 : Int) == 1 && (Builtin.Str.strSliceIndices none none (-1) z.length).length == z.length) = true then Made.val (.str z t)
      else Made.str ⟨((Builtin.Str.strSliceIndices none none (-1) z.length).filterMap (z.cps[·]?)).toArray⟩) (EP X pins σ Q) _
    rw [if_neg (by rw [show ((-1 : Int) == 1) = false from rfl, Bool.false_and]; exact Bool.false_ne_true), str_picks, e1]
    refine ⟨?_, .str _, H4, I5.tok _, ⟨_, rfl⟩, q⟩
    have hz' : z.cps.size ≤ sizeLine := hz
    show z.cps.toList.reverse.toArray.size ≤ sizeLine
    simpa using hz'
theorem pe_revD {W : WX} {fz : Bool} {e : Expr} {f : Env → Store → R D} {k : Nat} {p1 p2 p3 pos : Pos} (he : PE X e (tE X.K cls W f)) : PE X (revE e k p1 p2 p3 pos) (tE X.K cls W fun ρ st => (f ρ st).bind fun x st => backward fz x st) := by
  refine ⟨fun pins s σ H Q I q => (pe_rev3 he).run pins s σ H Q I ?_⟩
  obtain ⟨m, ρ, st, hE, hS, hP⟩ := q
  refine tG.of hE hS hP fun d st1 m1 v H1 _ _ hE1 hS1 r1 hP1 => ?_
  unfold backward at hP1
  split at hP1
  · next xs hx =>
    obtain ⟨a, vs, rfl, ha, ra⟩ := RD.sq hS1 r1 hx
    exact .inl ⟨a, vs, rfl, ha, (hP1.made hS1 ra.reverse).2⟩
  · next xs hx =>
    cases look_tup hx
    obtain ⟨a, vs, rfl, ha, ra⟩ := rd_tup r1
    exact .inr (.inl ⟨a, vs, rfl, ha, hP1.tupleN hS1 ra.reverse⟩)
  · next z hx =>
    cases look_str hx
    cases r1
    split at hP1
    · next hz => exact .inr (.inr ⟨z, rfl, hz, hP1.here hS1 (.str _)⟩)
    · exact False.elim hP1
  · exact False.elim hP1
end
end Mi
/-! MiT: methods of lists and of texts. -/
namespace Mi
open PySem PySem.Spec L2 PyProof.Rows
section
variable {X : Cx} {cls : Nat → Value}
def rM (K : PySem.W.Frag) (cls : Nat → Value) (f : D → List D → Store → R D) : V → List V → Hp → VK → Prop := fun x xs H Q =>
  ∃ (W : WX) (σ : L2.St) (m : Pl) (st : Store) (d : D) (ds : List D), SimS K H m st ∧ RD K H m d x ∧ RDs K H m ds xs ∧ Post K cls (relD K) W m H σ Q (f d ds st)
theorem onL_of {K : PySem.W.Frag} {W : WX} {H : Hp} {m : Pl} {σ : L2.St} {st : Store} {o : D} {x : V} {Q : VK} {k : Nat → List D → R D} (hS : SimS K H m st) (rd : RD K H m o x) (hP : Post K cls (relD K) W m H σ Q (onL o st k)) :
    ∃ l a xs vs, o = .loc l ∧ x = .ref a ∧ m.t[l]? = some a ∧ H a = some (.lst vs) ∧ RDs K H m xs vs ∧ Post K cls (relD K) W m H σ Q (k l xs) := by
  unfold onL at hP
  cases rd with
  | @loc l a ha =>
    simp only at hP
    split at hP
    · next xs hc =>
      obtain ⟨vs, h1, h2⟩ := hS.cell l a _ ha hc
      exact ⟨l, a, xs, vs, rfl, rfl, ha, h1, h2, hP⟩
    · exact False.elim hP
  | _ => exact False.elim hP
theorem mtAppend {fz : Bool} : MtR X "list.append" (rM X.K cls (meth .append fz)) := by
  intro pins s σ H x xs v us Q I rx rs h
  obtain ⟨W, σ', m, st, d, ds, hS, rd, rds, hP⟩ := h
  obtain ⟨l, a, ys, vs, rfl, rfl, ha, h1, h2, hP⟩ := onL_of hS rd hP
  split at hP
  · obtain ⟨y, rfl, ry⟩ := rds1 rds
    split at hP
    · next hz => exact mt_append pins s σ H _ _ v us Q I rx rs ⟨a, vs, y, rfl, rfl, h1, by rw [← h2.length]; exact hz, hP m _ _ (Ext.write ha) (hS.write ha (h2.append (.cons ry .nil))) .non⟩
    · exact False.elim hP
  · exact False.elim hP
theorem items_ok2 {K : PySem.W.Frag} {H : Hp} {m : Pl} {st : Store} {d : D} {v : V} {ys : List D} (hS : SimS K H m st) (r : RD K H m d v) (h : items st d = some ys) : ∃ b ws, v = .ref b ∧ RDs K H m ys ws ∧ (Rd H b (.lst ws) ∨ SqT K H b ws) := by
  unfold items at h
  split at h
  · next xs e =>
    cases h
    obtain ⟨a, vs, rfl, ha, ra⟩ := look_lst hS r e
    exact ⟨a, vs, rfl, ra, .inl ha⟩
  · next xs e =>
    cases h
    cases look_tup e
    obtain ⟨a, vs, rfl, ha, ra⟩ := rd_tup r
    exact ⟨a, vs, rfl, ra, .inr ha⟩
  · cases h
theorem list_extend_tupG (l : Addr) (items : Array Value) (n : Nat) (b : Addr) (items2 : Array Value) (n2 : Nat) (dd : Option Addr) (sl : Array (Option Value)) (hs0 : ¬(!items.isEmpty && Builtin.List.listTooLong (items.size + items2.size)) = true) (hs1 : items.size ≤ sizeLine) (hs2 : items.size + items2.size ≤ sizeLine + 1) :
    Meets (Builtin.«list.extend» ⟨[.ref l, .ref b], []⟩) (fun _ R s => s.heap.get? l = some { cls := .type "list", dict := none, data := .seq items n, slots := #[] } ∧ s.heap.get? b = some { cls := .type "tuple", dict := dd, data := .seq items2 n2, slots := sl } ∧ R (.ok (.ret Value.none)) { s with heap := s.heap.update l (Obj.mapSeq fun x => x ++ items2), toks := s.toks }) :=
  .of_wp fun prog w A R s h => by
    obtain ⟨hp, g, d, tk, os⟩ := s; obtain ⟨hl, hb, h⟩ := h; have f1 := PySem.AutoSeq1.idx_int; have f2 := PySem.AutoSeq1.sub_tuple_tuple; have f3 := PySem.AutoSeq1.sub_list_list; have f4 := PySem.AutoSeq1.sub_tuple_list; have f5 := PySem.AutoSeq1.sub_list_tuple;
    have hz' : (items ++ items2).size ≤ sizeLine + 1 := by rw [Array.size_append]; exact hs2
    wp_walk using (wpAny_updateSeq hl rfl (hz := hs1) (_hz' := hz')), PySem.AutoSeq1.wpAny_loadPart' hl, PySem.AutoSeq1.wpAny_loadPart' hb; exact ⟨_, rfl, h⟩
theorem mt_extendR : MtR X "list.extend" (fun x vs H Q => ∃ l b xs zs, x = .ref l ∧ vs = [.ref b] ∧ H l = some (.lst xs) ∧ (Rd H b (.lst zs) ∨ SqT X.K H b zs) ∧ xs.length + zs.length ≤ sizeLine ∧ Q .non (upd H l (.lst (xs ++ zs)))) := by
  intro pins s σ H x vs v us Q I rx rv h
  obtain ⟨l, b, xs, zs, rfl, rfl, hH, hB, hz, q⟩ := h
  cases rx
  obtain ⟨u, rfl, ru⟩ := rv.one
  cases ru
  obtain ⟨z, its, n, r, hl, e⟩ := I.lstM hH
  have fin : ∀ its2 : List Value, Vals zs its2 → L2.Inv X pins σ (upd H l (.lst (xs ++ zs))) { s with heap := s.heap.update l (Obj.mapSeq fun x => x ++ its2.toArray), toks := s.toks } := fun its2 r2 =>
    I.lset (its' := its ++ its2) hH e (by simp) (r.append r2) (by rw [List.length_append]; omega)
  rcases hB with hB | hB
  · obtain ⟨z2, its2, n2, r2, e2⟩ := rd_of I.hok hB
    have hl2 := r2.length
    have hsz : its.toArray.size + its2.toArray.size ≤ sizeLine := by rw [List.size_toArray, List.size_toArray]; omega
    have hlong : ¬ (!its.toArray.isEmpty && Builtin.List.listTooLong (its.toArray.size + its2.toArray.size)) = true := by
      rw [notLongL hsz, Bool.and_false]
      exact Bool.false_ne_true
    exact call_meets F.slot_list_extend ⟨_, e, rfl⟩ F.entry_list_extend (F.args_list_extend_2 _ _)
      (AutoSeq1.list_extend_list_list_0 l its.toArray n b its2.toArray n2 hlong (by rw [List.size_toArray]; omega) (by omega)) ⟨e, e2, .non, _, fin its2 r2, rfl, q⟩
  · obtain ⟨its2, r2, ⟨⟨cls, dd, data, sl⟩, e2, hc, n2, hd⟩, _⟩ := I.tuple hB
    simp only at hc hd
    subst hc hd
    have hl2 := r2.length
    have hsz : its.toArray.size + its2.toArray.size ≤ sizeLine := by rw [List.size_toArray, List.size_toArray]; omega
    have hlong : ¬ (!its.toArray.isEmpty && Builtin.List.listTooLong (its.toArray.size + its2.toArray.size)) = true := by
      rw [notLongL hsz, Bool.and_false]
      exact Bool.false_ne_true
    exact call_meets F.slot_list_extend ⟨_, e, rfl⟩ F.entry_list_extend (F.args_list_extend_2 _ _)
      (list_extend_tupG l its.toArray n b its2.toArray n2 dd sl hlong (by rw [List.size_toArray]; omega) (by omega)) ⟨e, e2, .non, _, fin its2 r2, rfl, q⟩
theorem mtExtend {fz : Bool} : MtR X "list.extend" (rM X.K cls (meth .extend fz)) := by
  intro pins s σ H x xs v us Q I rx rs h
  obtain ⟨W, σ', m, st, d, ds, hS, rd, rds, hP⟩ := h
  obtain ⟨l, a, ys, vs, rfl, rfl, ha, h1, h2, hP⟩ := onL_of hS rd hP
  split at hP
  · obtain ⟨y, rfl, ry⟩ := rds1 rds
    split at hP
    · next ys e =>
      obtain ⟨a2, ws, rfl, h4, h3⟩ := items_ok2 hS ry e
      split at hP
      · next hz => exact mt_extendR pins s σ H _ _ v us Q I rx rs ⟨a, a2, vs, ws, rfl, rfl, h1, h3, by rw [← h2.length, ← h4.length]; exact hz, hP m _ _ (Ext.write ha) (hS.write ha (h2.append h4)) .non⟩
      · exact False.elim hP
    · exact False.elim hP
  · exact False.elim hP
theorem mtClear {fz : Bool} : MtR X "list.clear" (rM X.K cls (meth .clear fz)) := by
  intro pins s σ H x xs v us Q I rx rs h
  obtain ⟨W, σ', m, st, d, ds, hS, rd, rds, hP⟩ := h
  obtain ⟨l, a, ys, vs, rfl, rfl, ha, h1, h2, hP⟩ := onL_of hS rd hP
  split at hP
  · cases rds
    exact mt_clear pins s σ H _ _ v us Q I rx rs ⟨a, vs, rfl, rfl, h1, hP m _ _ (Ext.write ha) (hS.write ha .nil) .non⟩
  · exact False.elim hP
theorem mtReverse {fz : Bool} : MtR X "list.reverse" (rM X.K cls (meth .reverse fz)) := by
  intro pins s σ H x xs v us Q I rx rs h
  obtain ⟨W, σ', m, st, d, ds, hS, rd, rds, hP⟩ := h
  obtain ⟨l, a, ys, vs, rfl, rfl, ha, h1, h2, hP⟩ := onL_of hS rd hP
  split at hP
  · cases rds
    exact mt_reverse pins s σ H _ _ v us Q I rx rs ⟨a, vs, rfl, rfl, h1, hP m _ _ (Ext.write ha) (hS.write ha h2.reverse) .non⟩
  · exact False.elim hP
theorem strs_rd {K : PySem.W.Frag} {H : Hp} {m : Pl} : ∀ (zs : List Str), RDs K H m (zs.map D.str) (zs.map V.str)
  | [] => .nil
  | z :: zs => .cons (.str z) (strs_rd zs)
theorem strsD_rd {K : PySem.W.Frag} {H : Hp} {m : Pl} : ∀ {xs : List D} {vs : List V} {zs : List Str}, RDs K H m xs vs → strsD xs = some zs → vs = zs.map V.str
  | [], _, zs, .nil, h => by cases h; rfl
  | x :: xs, _, zs, .cons r1 r2, h => by
    unfold strsD at h
    split at h
    · next e => cases e
    · next s r e =>
      cases e
      obtain ⟨ws, e2, rfl⟩ := Option.map_eq_some_iff.mp h
      cases r1
      rw [strsD_rd r2 e2]; rfl
    · cases h
theorem mtSplit {fz : Bool} : MtR X "str.split" (rM X.K cls (meth .split fz)) := by
  intro pins s σ H x xs v us Q I rx rs h
  obtain ⟨W, σ', m, st, d, ds, hS, rd, rds, hP⟩ := h
  have hP : Post X.K cls (relD X.K) W m H σ' Q (mSplit fz d ds st) := hP
  unfold mSplit at hP
  split at hP
  · next a =>
    cases rd
    split at hP
    · obtain ⟨y, rfl, ry⟩ := rds1 rds
      cases ry
      split at hP
      · next hz => exact mt_split pins s σ H _ _ v us Q I rx rs ⟨_, _, rfl, rfl, hz.1, hz.2, (hP.made hS (strs_rd _)).2⟩
      · exact False.elim hP
    · exact False.elim hP
  · exact False.elim hP
theorem mtJoin {fz : Bool} : MtR X "str.join" (rM X.K cls (meth .join fz)) := by
  intro pins s σ H x xs v us Q I rx rs h
  obtain ⟨W, σ', m, st, d, ds, hS, rd, rds, hP⟩ := h
  have hP : Post X.K cls (relD X.K) W m H σ' Q (mJoin d ds st) := hP
  unfold mJoin at hP
  split at hP
  · next a =>
    cases rd
    split at hP
    · obtain ⟨y, rfl, ry⟩ := rds1 rds
      split at hP
      · next ys e =>
        split at hP
        · next zs e2 =>
          split at hP
          · next hz =>
            unfold items at e
            split at e
            · next e3 =>
              cases e
              obtain ⟨p, vs, rfl, hp, rp⟩ := RD.sq hS ry e3
              have := strsD_rd rp e2
              subst this
              exact mt_join pins s σ H _ _ v us Q I rx rs ⟨_, p, zs, rfl, rfl, .inl hp, hz, hP.here hS (.str _)⟩
            · next e3 =>
              cases e
              cases look_tup e3
              obtain ⟨p, vs, rfl, hp, rp⟩ := rd_tup ry
              have := strsD_rd rp e2
              subst this
              exact mt_join pins s σ H _ _ v us Q I rx rs ⟨_, p, zs, rfl, rfl, .inr hp, hz, hP.here hS (.str _)⟩
            · cases e
          · exact False.elim hP
        · exact False.elim hP
      · exact False.elim hP
    · exact False.elim hP
  · exact False.elim hP
theorem ixN_seq {n j : Nat} {k : Int} (h : ixN n k = some j) : seqIndex? k n = some j := by
  unfold ixN at h
  unfold seqIndex?
  split at h
  · next h0 =>
    split at h
    · next h1 =>
      cases h
      have : ¬ k < 0 := by omega
      simp [this, h0, h1]
    · cases h
  · next h0 =>
    split at h
    · next h1 =>
      cases h
      have a : k < 0 := by omega
      have b : (0 : Int) ≤ k + n := by omega
      have c : k + (n : Int) < n := by omega
      simp only [a, if_true, b, c, decide_true, Bool.and_self]
    · cases h
theorem rds_erase {K : PySem.W.Frag} {H : Hp} {m : Pl} : ∀ {ds : List D} {vs : List V} (j : Nat), RDs K H m ds vs → RDs K H m (ds.eraseIdx j) (vs.eraseIdx j)
  | _, _, _, .nil => .nil
  | _, _, 0, .cons _ t => t
  | _, _, j + 1, .cons r t => .cons r (rds_erase j t)
theorem mtPop {fz : Bool} : MtR X "list.pop" (rM X.K cls (meth .pop fz)) := by
  intro pins s σ H x xs v us Q I rx rs h
  obtain ⟨W, σ', m, st, d, ds, hS, rd, rds, hP⟩ := h
  obtain ⟨l, a, ys, vs, rfl, rfl, ha, h1, h2, hP⟩ := onL_of hS rd hP
  split at hP
  · cases rds
    split at hP
    · next d1 hd =>
      obtain ⟨w, hw, rw'⟩ := h2.get hd
      have hdl : ∀ {as : List D} {bs : List V}, RDs X.K H m as bs → RDs X.K H m as.dropLast bs.dropLast := fun {as bs} r => by
        rw [List.dropLast_eq_take, List.dropLast_eq_take, ← r.length]
        exact r.take _
      rw [h2.length] at hw
      exact mt_pop pins s σ H _ _ v us Q I rx rs ⟨a, vs, w, rfl, rfl, h1, hw, hP m _ _ (Ext.write ha) (hS.write ha (hdl h2)) (rw'.mono hS.cells (Ext.write ha))⟩
    · exact False.elim hP
  · obtain ⟨y, rfl, ry⟩ := rds1 rds
    cases ry
    split at hP
    · next hb =>
      split at hP
      · next j hj =>
        split at hP
        · next d1 hd =>
          obtain ⟨w, hw, rw'⟩ := h2.get hd
          exact mt_popAt pins s σ H _ _ v us Q I rx rs ⟨a, vs, _, j, w, rfl, rfl, h1, hb.1, hb.2, by rw [← h2.length]; exact ixN_seq hj, hw, hP m _ _ (Ext.write ha) (hS.write ha (rds_erase j h2)) (rw'.mono hS.cells (Ext.write ha))⟩
        · exact False.elim hP
      · exact False.elim hP
    · exact False.elim hP
  · exact False.elim hP
theorem mtGet (hu : X.A.units + 64 < cLine) {fz : Bool} : MtR X "dict.get" (rM X.K cls (meth .get fz)) := by
  intro pins s σ H x xs v us Q I rx rs h
  obtain ⟨W, σ', m, st, d, ds, hS, rd, rds, hP⟩ := h
  replace hP : Post X.K cls (relD X.K) W m H σ' Q (mGet d ds st) := hP
  unfold mGet at hP
  split at hP
  · next p e1 =>
    obtain ⟨a, ws, rfl, rfl, ha, hH, hk, hc⟩ := dct_ok hS rd e1
    cases (show v = Value.ref a from rx)
    split at hP
    · obtain ⟨y, rfl, ry⟩ := rds1 rds
      split at hP
      · next k e2 =>
        cases key_ok ry e2
        obtain ⟨u, rfl, ru⟩ := vals1 rs
        refine d_get1 (by omega) I (.k hH) ru fun w' s' I' rw' => ⟨_, H, I', rw', ?_⟩
        rcases hk.val k with ⟨h1, h2⟩ | ⟨d, w, h1, h2, r⟩
        · rw [h1] at hP; rw [h2]; exact hP.here hS .non
        · rw [h1] at hP; rw [h2]; exact hP.here hS r
      · exact False.elim hP
    · obtain ⟨y, z, rfl, ry, rz⟩ := rds2 rds
      split at hP
      · next k e2 =>
        cases key_ok ry e2
        cases rs with
        | cons ru rt =>
          obtain ⟨u2, rfl, ru2⟩ := vals1 rt
          refine d_get2 (by omega) I (.k hH) ru ru2 fun w' s' I' rw' => ⟨_, H, I', rw', ?_⟩
          rcases hk.val k with ⟨h1, h2⟩ | ⟨d, w, h1, h2, r⟩
          · rw [h1] at hP; rw [h2]; exact hP.here hS rz
          · rw [h1] at hP; rw [h2]; exact hP.here hS r
      · exact False.elim hP
    · exact False.elim hP
  · split at hP
    · next p e1 =>
      obtain ⟨a, ws, rfl, rfl, ha, _, hH, hk, hc⟩ := dtt_ok hS rd e1
      cases (show v = Value.ref a from rx)
      split at hP
      · obtain ⟨y, rfl, ry⟩ := rds1 rds
        cases ry
        obtain ⟨u, rfl, ru⟩ := vals1 rs
        cases (show u = Value.none from ru)
        exact d_getN1 hu I hH fun s' I' => ⟨.non, H, I', rfl, hP.here hS .non⟩
      · obtain ⟨y, z, rfl, ry, rz⟩ := rds2 rds
        cases ry
        cases rs with
        | cons ru rt =>
          cases (show _ = Value.none from ru)
          obtain ⟨u2, rfl, ru2⟩ := vals1 rt
          exact d_getN2 hu I hH fun s' I' => ⟨_, H, I', ru2, hP.here hS rz⟩
      · obtain ⟨y, rfl, ry⟩ := rds1 rds
        split at hP
        · next k e2 =>
          obtain ⟨b, rfl, eb⟩ := pk_look ry e2
          obtain ⟨u, rfl, ru⟩ := vals1 rs
          refine x_get1 (by omega) I (.inr ⟨ws, k, b, hH, rfl, eb, rfl⟩) ru fun w' s' I' rw' => ⟨_, H, I', rw', ?_⟩
          rcases hk.val k with ⟨h1, h2⟩ | ⟨d, w, h1, h2, r⟩
          · rw [h1] at hP; rw [h2]; exact hP.here hS .non
          · rw [h1] at hP; rw [h2]; exact hP.here hS r
        · exact False.elim hP
      · obtain ⟨y, z, rfl, ry, rz⟩ := rds2 rds
        split at hP
        · next k e2 =>
          obtain ⟨b, rfl, eb⟩ := pk_look ry e2
          cases rs with
          | cons ru rt =>
            obtain ⟨u2, rfl, ru2⟩ := vals1 rt
            refine x_get2 (by omega) I (.inr ⟨ws, k, b, hH, rfl, eb, rfl⟩) ru ru2 fun w' s' I' rw' => ⟨_, H, I', rw', ?_⟩
            rcases hk.val k with ⟨h1, h2⟩ | ⟨d, w, h1, h2, r⟩
            · rw [h1] at hP; rw [h2]; exact hP.here hS rz
            · rw [h1] at hP; rw [h2]; exact hP.here hS r
        · exact False.elim hP
      · exact False.elim hP
    · exact False.elim hP
def mthName : Mth → String
  | .append => "append" | .clear => "clear" | .reverse => "reverse" | .pop => "pop" | .split => "split" | .join => "join" | .get => "get" | .extend => "extend" | _ => ""
def mthOn : Mth → Bool
  | .append => true | .clear => true | .reverse => true | .pop => true | .split => true | .join => true | .get => true | .extend => true | _ => false
def mthTy : Mth → String
  | .split => "str" | .join => "str" | .get => "dict" | _ => "list"
theorem mth_rule (hu : X.A.units + 64 < cLine) {fz : Bool} : ∀ {m : Mth}, mthOn m = true → ∃ id : String, PlainAttrs (mthTy m) ∧ Slot (mthTy m) (mthName m : Str) id ∧ typeOf (.builtin id) = pure (.type "method_descriptor") ∧ MtR X id (rM X.K cls (meth m fz))
  | .append, _ => ⟨"list.append", F.plainAttrs_list, F.slot_list_append, F.type_list_append, mtAppend⟩
  | .clear, _ => ⟨"list.clear", F.plainAttrs_list, F.slot_list_clear, F.type_list_clear, mtClear⟩
  | .reverse, _ => ⟨"list.reverse", F.plainAttrs_list, F.slot_list_reverse, F.type_list_reverse, mtReverse⟩
  | .pop, _ => ⟨"list.pop", F.plainAttrs_list, F.slot_list_pop, F.type_list_pop, mtPop⟩
  | .split, _ => ⟨"str.split", F.plainAttrs_str, F.slot_str_split, F.type_str_split, mtSplit⟩
  | .join, _ => ⟨"str.join", F.plainAttrs_str, F.slot_str_join, F.type_str_join, mtJoin⟩
  | .extend, _ => ⟨"list.extend", F.plainAttrs_list, F.slot_list_extend, F.type_list_extend, mtExtend⟩
  | .index, h => by cases h
  | .count, h => by cases h
  | .get, _ => ⟨"dict.get", PySem.F.plainAttrs_dict, PySem.F.slot_dict_get, PySem.F.type_dict_get, mtGet hu⟩
  | .items, h => by cases h
  | .values, h => by cases h
  | .setdefault, h => by cases h
  | .update, h => by cases h
  | .insert, h => by cases h
  | .replace, h => by cases h
  | .startswith, h => by cases h
  | .upper, h => by cases h
theorem isLc_ty {K : PySem.W.Frag} {H : Hp} {m : Pl} {st : Store} {o : D} {x : V} (hS : SimS K H m st) (rd : RD K H m o x) (h : isLc o st = true) : tyV K "list" x H := by
  unfold isLc at h
  cases rd with
  | @loc l a ha =>
    simp only at h
    split at h
    · next xs hc =>
      obtain ⟨vs, h1, h2⟩ := hS.cell l a _ ha hc
      exact .inl ⟨rfl, vs, SqL.of h1⟩
    · cases h
  | _ => cases h
theorem isSt_ty {K : PySem.W.Frag} {H : Hp} {m : Pl} {o : D} {x : V} (rd : RD K H m o x) (h : isSt o = true) : tyV K "str" x H := by
  unfold isSt at h
  cases rd with
  | str z => exact rfl
  | _ => cases h
theorem isDc_ty {K : PySem.W.Frag} {H : Hp} {m : Pl} {st : Store} {o : D} {x : V} (hS : SimS K H m st) (rd : RD K H m o x) (h : (dctAt st o).isSome = true) : tyV K "dict" x H := by
  obtain ⟨p, e⟩ := Option.isSome_iff_exists.mp h
  obtain ⟨a, ws, rfl, rfl, ha, hH, hk, hc⟩ := dct_ok hS rd e
  exact .inr (.inr (.inl ⟨rfl, .inl ⟨ws, hH⟩⟩))
theorem isDt_ty {K : PySem.W.Frag} {H : Hp} {m : Pl} {st : Store} {o : D} {x : V} (hS : SimS K H m st) (rd : RD K H m o x) (h : ((dctAt st o).isSome || (dttAt st o).isSome) = true) : tyV K "dict" x H := by
  simp only [Bool.or_eq_true] at h
  rcases h with h | h
  · exact isDc_ty hS rd h
  · obtain ⟨p, e⟩ := Option.isSome_iff_exists.mp h
    obtain ⟨a, ws, rfl, rfl, ha, _, hH, hk, hc⟩ := dtt_ok hS rd e
    exact .inr (.inr (.inl ⟨rfl, .inr ⟨ws, hH⟩⟩))
theorem recv_ty {K : PySem.W.Frag} {H : Hp} {m : Pl} {st : Store} {o : D} {x : V} {k : Mth} (hS : SimS K H m st) (rd : RD K H m o x) (h : recv k o st = true) : tyV K (mthTy k) x H := by
  cases k <;> first | exact isLc_ty hS rd h | exact isSt_ty rd h | exact isDt_ty hS rd h
end
end Mi
/-! MiF: which text is which term (a check), and that a text's run is its term's meaning: expressions. -/
namespace Mi
open PySem PySem.Spec L2

/-! ### names -/
def visB (sc : Scope) (x : Str) : Bool := (match sc.names.lookup x with | some .local => true | some .cell => true | some .free => true | _ => false) && !(x == ("__debug__" : Str)) && !(x == ("__classdict__" : Str))
def locB (sc : Scope) (x : Str) : Bool := match sc.names.lookup x with | some .local => true | _ => false
def cellB (sc : Scope) (x : Str) : Bool := match sc.names.lookup x with | some .cell => true | _ => false
def gloB (sc : Scope) (x : Str) : Bool := (match sc.names.lookup x with | some .globalImplicit => true | _ => false) && !(x == ("__debug__" : Str)) && !(x == ("__name__" : Str))
theorem visB_vis {sc : Scope} {x : Str} (h : visB sc x = true) : Vis sc x ∧ (x == ("__debug__" : Str)) = false ∧ (x == ("__classdict__" : Str)) = false := by
  simp only [visB, Bool.and_eq_true, Bool.not_eq_true'] at h
  obtain ⟨⟨h, h1⟩, h2⟩ := h
  refine ⟨?_, h1, h2⟩
  split at h
  · next e => exact .inl e
  · next e => exact .inr (.inl e)
  · next e => exact .inr (.inr e)
  · cases h
theorem locB_loc {sc : Scope} {x : Str} (h : locB sc x = true) : sc.names.lookup x = some .local := by
  unfold locB at h; split at h
  · assumption
  · cases h
theorem cellB_cell {sc : Scope} {x : Str} (h : cellB sc x = true) : sc.names.lookup x = some .cell := by
  unfold cellB at h; split at h
  · assumption
  · cases h
theorem gloB_glo {X : Cx} {x : Str} (h : gloB X.env.scope x = true) : Gl X x ∧ (x == ("__debug__" : Str)) = false ∧ x ≠ ("__name__" : Str) := by
  simp only [gloB, Bool.and_eq_true, Bool.not_eq_true'] at h
  obtain ⟨⟨h, h1⟩, h2⟩ := h
  refine ⟨?_, h1, by simpa using h2⟩
  split at h
  · next e => exact e
  · cases h
def isName (N : List Str) (i : Nat) (x : Str) : Bool := decide (N[i]? = some x)

/-! ### the check of expressions -/
def constIs : Const → D → Bool
  | .none, .non => true
  | .bool a, .bl b => a == b
  | .int a, .int b => a == b
  | .str a, .str b => a == b
  | _, _ => false
def opOf : BOp → Operator
  | .add => .Add | .sub => .Sub | .mul => .Mult | .fdiv => .FloorDiv | .mod => .Mod | .pow => .Pow | .band => .BitAnd
def notSlice : Expr → Bool
  | .Slice _ _ _ _ => false
  | _ => true
def plainE : Expr → Bool
  | .Starred _ _ => false
  | .Set _ _ _ => false
  | _ => true
/-- tests that are no plain values' truth -/
def testE : Expr → Bool
  | .BoolOp _ _ _ => true
  | .UnaryOp .Not _ _ => true
  | .Compare _ _ _ _ => true
  | .IfExp _ _ _ _ => true
  | _ => false
def prmName : Prm → String
  | .len => "len" | .int => "int" | .bool => "bool" | .abs => "abs" | .max => "max" | .min => "min" | .sum => "sum" | .all => "all" | .any => "any" | .list => "list" | .tuple => "tuple"
  | .str => "str" | .sorted => "sorted" | .repr => "repr" | .set => "set" | .dict => "dict" | .sortedset => "sorted" | .lenset => "len"
def tyName : Ty → Option String
  | .int => some "int" | .bool => some "bool" | .str => some "str" | .tuple => some "tuple" | .list => some "list" | .dict => some "dict" | _ => none
/-- what a method may be asked of: no super() -/
def baseE : Expr → Bool
  | .Call (.Name _ _) [] [] _ => false
  | _ => true
structure Tab where
  T : List Fn
  gs : List (Str × D)
  /-- the classes of exceptions that there are -/
  xs : List Nat := []
  /-- within an except suite -/
  hot : Bool := false
theorem hot_and {h b : Bool} (q : (!h && b) = true) : h = false ∧ b = true := by
  simpa using q
def dfOk (fn : Fn) (n : Nat) (df : List D) : Prop := fn.np = n + df.length ∧ df = fn.dfl.drop (fn.dfl.length - df.length) ∧ df.length ≤ fn.dfl.length
def atom : D → Option V
  | .non => some .non
  | .bl b => some (.bl b)
  | .int i => some (.int i)
  | .str s => some (.str s)
  | _ => none
def atomEq : D → D → Bool
  | .non, .non => true
  | .bl a, .bl b => a == b
  | .int a, .int b => a == b
  | .str a, .str b => a == b
  | _, _ => false
def atomsEq : List D → List D → Bool
  | [], [] => true
  | x :: xs, y :: ys => atomEq x y && atomsEq xs ys
  | _, _ => false
theorem atomEq_eq : ∀ {x y : D}, atomEq x y = true → x = y := by
  intro x y h
  cases x <;> cases y <;> simp_all [atomEq]
theorem atomsEq_eq : ∀ {xs ys : List D}, atomsEq xs ys = true → xs = ys
  | [], [], _ => rfl
  | x :: xs, y :: ys, h => by
    simp only [atomsEq, Bool.and_eq_true] at h
    rw [atomEq_eq h.1, atomsEq_eq h.2]
  | [], _ :: _, h => by cases h
  | _ :: _, [], h => by cases h
mutual
def deq : D → D → Bool
  | .non, .non => true
  | .bl a, .bl b => a == b
  | .int a, .int b => a == b
  | .str a, .str b => a == b
  | .zr, .zr => true
  | .tup xs, .tup ys => deqs xs ys
  | _, _ => false
def deqs : List D → List D → Bool
  | [], [] => true
  | x :: xs, y :: ys => deq x y && deqs xs ys
  | _, _ => false
end
mutual
theorem deq_eq : ∀ {x y : D}, deq x y = true → x = y
  | .tup xs, .tup ys, h => by simp only [deq] at h; rw [deqs_eq h]
  | .non, y, h => by cases y <;> first | rfl | cases h
  | .zr, y, h => by cases y <;> first | rfl | cases h
  | .bl _, y, h => by cases y <;> first | (simp only [deq, beq_iff_eq] at h; rw [h]) | cases h
  | .int _, y, h => by cases y <;> first | (simp only [deq, beq_iff_eq] at h; rw [h]) | cases h
  | .str _, y, h => by cases y <;> first | (simp only [deq, beq_iff_eq] at h; rw [h]) | cases h
  | .tup _, .non, h | .tup _, .bl _, h | .tup _, .int _, h | .tup _, .str _, h | .tup _, .lst _, h | .tup _, .exc _, h | .tup _, .loc _, h | .tup _, .odd, h => by cases h
  | .lst _, _, h => by simp [deq] at h
  | .exc _, _, h => by simp [deq] at h
  | .loc _, _, h => by simp [deq] at h
  | .odd, _, h => by simp [deq] at h
theorem deqs_eq : ∀ {xs ys : List D}, deqs xs ys = true → xs = ys
  | [], [], _ => rfl
  | x :: xs, y :: ys, h => by
    simp only [deqs, Bool.and_eq_true] at h
    rw [deq_eq h.1, deqs_eq h.2]
  | [], _ :: _, h => by cases h
  | _ :: _, [], h => by cases h
end
def dfB (fn : Fn) (n : Nat) (df : List D) : Bool := decide (fn.np = n + df.length) && atomsEq df (fn.dfl.drop (fn.dfl.length - df.length)) && decide (df.length ≤ fn.dfl.length)
def ownN (N : List Str) (own : List Nat) : List (Str × Nat) := own.map fun i => ((N[i]?).getD ⟨#[]⟩, i)
def chkNames (ck : Str → Bool) (N : List Str) (sc : Scope) : List Nat → List Expr → Bool
  | [], [] => true
  | i :: is, .Name x _ :: es => isName N i x && (locB sc x || (cellB sc x && ck x)) && chkNames ck N sc is es
  | _, _ => false
def chkTg (ck : Str → Bool) (N : List Str) (sc : Scope) (tg : List Nat) (one : Bool) (e : Expr) : Bool := match e with
  | .Name _ _ => one && chkNames ck N sc tg [e]
  | .Tuple es _ _ => !one && chkNames ck N sc tg es
  | _ => false
def clsIs (xs : List Nat) (sc : Scope) (c : Nat) (x : Str) : Bool := x == excN c && gloB sc (excN c) && (c == 9 || xs.contains c)
def tyIs (xs : List Nat) (sc : Scope) (t : Ty) : Expr → Bool
  | .Name x _ => (match t with
    | .cls c => clsIs xs sc c x
    | t => (match tyName t with | some s => x == (s : Str) && gloB sc (s : Str) | none => false))
  | _ => false
def tysAre (xs : List Nat) (sc : Scope) : List Ty → List Expr → Bool
  | [], [] => true
  | t :: ts, e :: es => tyIs xs sc t e && tysAre xs sc ts es
  | _, _ => false
/-- a display's keys and values, in their turn -/
def inter : List (Option Expr) → List Expr → List Expr
  | some k :: ks, v :: vs => k :: v :: inter ks vs
  | _, _ => []
/-- a whole number as written -/
def intLit : Expr → Option Int
  | .Constant (.int i) _ _ => some i
  | .UnaryOp .USub (.Constant (.int i) _ _) _ => some (-i)
  | _ => none
mutual
def chkE (T : Tab) (N : List Str) : Scope → E → Expr → Bool
  | sc, .var i, e => (match e with | .Name x _ => isName N i x && visB sc x | _ => false)
  | sc, .cst d, e => (match e with | .Constant c _ _ => constIs c d | _ => false)
  | sc, .glo y d, e => (match e with | .Name x _ => x == y && gloB sc y && T.gs.any (fun p => p.1 == y && deq p.2 d) | _ => false)
  | sc, .tup es, e => (match e with | .Tuple as _ _ => chkEs T N sc es as | _ => false)
  | sc, .lst _ es, e => (match e with | .List as _ => chkEs T N sc es as | _ => false)
  | sc, .bin op _ a b, e => (match e with | .BinOp x o y _ => decide (o = opOf op) && chkE T N sc a x && chkE T N sc b y | _ => false)
  | sc, .neg a, e => (match e with | .UnaryOp .USub x _ => chkE T N sc a x | _ => false)
  | sc, .cmp op a b, e => (match e with | .Compare x [o] [y] _ => decide (o = cmpOf op) && chkE T N sc a x && chkE T N sc b y && plainE y | _ => false)
  | sc, .chn o p a b c, e => (match e with | .Compare x [o', p'] [y, z] _ => decide (o' = cmpOf o) && decide (p' = cmpOf p) && chkE T N sc a x && chkE T N sc b y && chkE T N sc c z && plainE y && plainE z | _ => false)
  | sc, .and a b, e => (match e with
    | .BoolOp .And (x :: y :: []) _ => chkE T N sc a x && chkE T N sc b y
    | .BoolOp .And (x :: y :: z :: r) p => chkE T N sc a x && chkE T N sc b (.BoolOp .And (y :: z :: r) p)
    | _ => false)
  | sc, .or a b, e => (match e with
    | .BoolOp .Or (x :: y :: []) _ => chkE T N sc a x && chkE T N sc b y
    | .BoolOp .Or (x :: y :: z :: r) p => chkE T N sc a x && chkE T N sc b (.BoolOp .Or (y :: z :: r) p)
    | _ => false)
  | sc, .not a, e => (match e with | .UnaryOp .Not x _ => chkE T N sc a x | _ => false)
  | sc, .ite c a b, e => (match e with | .IfExp z x y _ => chkE T N sc c z && chkE T N sc a x && chkE T N sc b y | _ => false)
  | sc, .call _ f es df, e => !T.hot && (match e with
    | .Call (.Name x _) as [] _ => (match T.T[f]? with
      | some fn => fn.name == x && gloB sc x && chkEs T N sc es as && dfB fn es.length df
      | none => false)
    | _ => false)
  | sc, .prm p _ es, e => !T.hot && (match e with
    | .Call (.Name x _) (a :: as) [] _ => x == (prmName p : Str) && gloB sc x && (prmV p).isSome && chkEs T N sc es (a :: as)
    | _ => false)
  | sc, .isa a tys, e => (match e with
    | .Call (.Name x _) [y, .Tuple ts _ _] [] _ => x == ("isinstance" : Str) && gloB sc x && chkE T N sc a y && tysAre T.xs sc tys ts && plainE y && decide (ts.length ≤ 10)
    | .Call (.Name x _) [y, t] [] _ => x == ("isinstance" : Str) && gloB sc x && chkE T N sc a y && tysAre T.xs sc tys [t] && plainE y
    | _ => false)
  | sc, .idx a b, e => (match e with | .Subscript x y _ => notSlice y && chkE T N sc a x && chkE T N sc b y | _ => false)
  | sc, .slc _ a lo hi, e => (match e with | .Subscript x (.Slice l u none _) _ => chkE T N sc a x && chkEs T N sc lo l.toList && chkEs T N sc hi u.toList | _ => false)
  | sc, .rev _ a, e => (match e with | .Subscript x (.Slice none none (some (.UnaryOp .USub (.Constant (.int 1) _ _) _)) _) _ => chkE T N sc a x | _ => false)
  | sc, .mth m _ o es, e => (match e with
    | .Call (.Attribute y nm ap) as [] cp => mthOn m && nm == (mthName m : Str) && baseE y && ap.endLine == cp.line && chkE T N sc o y && chkEs T N sc es as && decide (as.length ≤ 2)
    | _ => false)
  | sc, .sit a, e => !T.hot && (match e with | .Call (.Name x _) [.Call (.Attribute y nm ap) [] [] cp] [] _ => x == ("sorted" : Str) && gloB sc x && nm == ("items" : Str) && baseE y && ap.endLine == cp.line && chkE T N sc a y | _ => false)
  | sc, .mxv a, e => !T.hot && (match e with | .Call (.Name x _) [.Call (.Attribute y nm ap) [] [] cp] [⟨some z, .Constant (.int 0) _ _, _⟩] _ => x == ("max" : Str) && gloB sc x && nm == ("values" : Str) && z == ("default" : Str) && baseE y && ap.endLine == cp.line && chkE T N sc a y | _ => false)
  | sc, .lns a, e => !T.hot && (match e with | .Call (.Name x _) [.Call (.Name z _) [y] [] _] [] _ => x == ("len" : Str) && gloB sc x && z == ("set" : Str) && gloB sc z && plainE y && chkE T N sc a y | _ => false)
  | sc, .srs _ a, e => !T.hot && (match e with | .Call (.Name x _) [.Call (.Name z _) [y] [] _] [] _ => x == ("sorted" : Str) && gloB sc x && z == ("set" : Str) && gloB sc z && plainE y && chkE T N sc a y | _ => false)
  | sc, .odc, e => (match e with | .Dict [] [] _ => true | _ => false)
  | sc, .dit i j a, e => (match e with | .Dict [some (.Tuple [k, z] _ _)] [v] _ => intLit k == some i && intLit z == some j && chkE T N sc a v | _ => false)
  | sc, .dic es, e => (match e with | .Dict ks vs _ => ks.all (·.isSome) && decide (ks.length = vs.length) && decide (ks.length ≤ 15) && chkEs T N sc es (inter ks vs) | _ => false)
  | sc, .comp _ own tg one it c elt, e => !T.hot && (match e with
    | .ListComp y [⟨t, i, cs, 0⟩] scope _ => chkI T N sc one it i && blkC N sc scope (ownN N own) && chkTg (fun x => scope.names.lookup x == some .cell) N (relS scope sc) tg one t && tg.all (fun i => own.contains i) && decide (cs.length ≤ 1) && chkEs T N (relS scope sc) c cs && chkE T N (relS scope sc) elt y && own.all (fun i => decide (i < N.length))
    | _ => false)
  | _, .iSeq _, _ => false
  | _, .iRng _, _ => false
  | _, .iEnm _, _ => false
  | _, .iZip _ _, _ => false
def chkEs (T : Tab) (N : List Str) : Scope → List E → List Expr → Bool
  | _, [], es => (match es with | [] => true | _ => false)
  | sc, a :: as, es => (match es with | x :: xs => plainE x && chkE T N sc a x && chkEs T N sc as xs | _ => false)
def chkI (T : Tab) (N : List Str) : Scope → Bool → E → Expr → Bool
  | sc, _, .iSeq a, e => plainE e && chkE T N sc a e
  | sc, _, .iRng es, e => (match e with
    | .Call (.Name x _) (a :: as) [] _ => x == ("range" : Str) && gloB sc x && chkEs T N sc es (a :: as) && decide ((a :: as).length ≤ 3)
    | _ => false)
  | sc, one, .iZip a b, e => (match e with
    | .Call (.Name x _) [y, z] [] _ => x == ("zip" : Str) && gloB sc x && !one && plainE y && plainE z && chkE T N sc a y && chkE T N sc b z
    | _ => false)
  | sc, one, .iEnm a, e => (match e with
    | .Call (.Name x _) [y] [] _ => x == ("enumerate" : Str) && gloB sc x && !one && plainE y && chkE T N sc a y
    | _ => false)
  | _, _, _, _ => false
end
end Mi
/-! MiU: defs that are called where nothing is being shown (no repr under way). -/
namespace Mi
open PySem PySem.Spec PyProof.Rows L2
/-- a def's promise, asked only where no repr is under way -/
structure GFn (P : Program) (w : World) (K : PySem.W.Frag) (mg : Str → Option Value) (base : Heap) (cx : CXT) (k : Nat) (f : Addr) (fd : FuncData) (ps : List Str) (sp : Sp) : Prop where
  lenG : ∀ vs H Q E, sp vs H Q E → vs.length = ps.length
  goes : ∀ (B : Around) (out : List PySem.Env) (s : Shared) (H : Hp) (ar : Args) (us : List Value) (vs : List V) (Q : VK) (E : XK), B.guards = some [] → Room k B → Env0 P w K mg base B out s H →
    BindsTo s fd ar (ps.zip us) → Vals vs us → sp vs H Q E → codeAny (model P w) B (.call (.ref f) ar) (CR cx out P w H s Q E) s
section
variable {P : Program} {w : World} {K : PySem.W.Frag} {mg : Str → Option Value} {base : Heap} {cx : CXT} {k : Nat} {f : Addr} {fd : FuncData} {ps N : List Str} {sp : Sp}
theorem GFn.leaves {cy : CXT} (F : GFn P w K mg base cx k f fd ps sp) (h : ∀ out H s E e s', cx out H s E e s' → cy out H s E e s') : GFn P w K mg base cy k f fd ps sp :=
  ⟨F.lenG, fun B out s H ar us vs Q E g r e b v q => codeAny_mono (F.goes B out s H ar us vs Q E g r e b v q) fun res s' z => match res, z with
    | .ok (.ret _), z => z
    | .ok .next, z => z
    | .ok .brk, z => z
    | .ok .cont, z => z
    | .error _, z => h _ _ _ _ _ _ z⟩
/-- from the body's walk to the promise -/
theorem GFn.of {x qual : Str} {pa : Arguments} {body : List Stmt} {sc : Scope} {dvs : List V} {kws : List (Str × V)} (F : FunD K x qual pa body sc dvs kws f fd) (S : FnScope N ps sc) (hl : ∀ vs H Q E, sp vs H Q E → vs.length = ps.length)
    (hb : ∀ (cd : Value) (B : Around) (out : List PySem.Env) (s : Shared) (H : Hp) (vs : List V) (Q : VK) (E : XK), B.guards = some [] → Room k (B.deeper (envOfC qual sc s.heap.objs.size f cd)) → sp vs H Q E →
      ∃ t, PSs (cxOf cx P w K mg base N qual sc f cd B out s H E) body t ∧ t { nx := fun _ H' => Q .non H', rt := Q } (L2.start N vs) H) : GFn P w K mg base cx (k + 1) f fd ps sp := by
  obtain ⟨oc, od, dV, kV, doc, pm, an, cd, ct, osl, rfl, lk, hcd, _, _⟩ := F.ex
  refine ⟨hl, fun B out s H ar us vs Q E g rm e0 bd rv q => ?_⟩
  have n1 : vs.length = ps.length := hl _ _ _ _ q
  have old : ∀ b o, base.get? b = some o → s.heap.get? b = some o := fun b o e => (e0.bs b o e).1
  have kin := e0.mod.kin.keeps old
  have hk : ∀ y ∈ ps.zip us, sc.names.lookup y.1 = some .local ∨ (sc.names.lookup y.1 = some .cell ∧ ((cellsFrom (s.heap.objs.size + 1) sc.names []).lookup y.1).isSome = true) := by
    rintro ⟨a, v⟩ hy
    exact (S.par a (List.of_mem_zip hy).1).imp id fun z => ⟨z, PySem.W.cellsFrom_some _ _ _ (.inl z)⟩
  refine codeAny_call_function rm.depth (kin _ _ lk) rfl S.co S.gen rfl (PySem.W.codeRec_of kin hcd) (bd _ _ _ _ (wpAny_newFunctionEnv_cells S.kind hk fun en he s1 ic => ?_))
  subst he
  refine ⟨(e0.mod.nolimit.keeps old).keeps ic.toInCall.keep, codeAny_func ?_⟩
  obtain ⟨t, ht, hq⟩ := hb cd B out s H vs Q E g (rm.deeper _) q
  have J := inv_start (CX := cx) (E := E) (cd := cd) S rm.hd e0 n1 rv ic
  refine wpAny_mono (ht.run [] s1 _ H _ J hq) (fun fl s' z => ?_) fun _ _ z => z
  have out' : ∀ {σ' : L2.St} {H' : Hp} {v : V} {u : Value}, Inv (cxOf cx P w K mg base N qual sc f cd B out s H E) [] σ' H' s' → RelV v u → Q v H' → CE out P w H s Q u s' := fun J r q => ⟨_, _, J.os, J.bare, J.base, J.hok, r, q⟩
  match fl, z with
  | .ret u, ⟨v, σ', H', J', r', q'⟩ => exact out' J' r' q'
  | .next, ⟨σ', H', J', q'⟩ => exact out' (v := V.non) (u := Value.none) J' rfl q'
  | .brk, ⟨_, _, _, q'⟩ => exact q'.elim
  | .cont, ⟨_, _, _, q'⟩ => exact q'.elim
end
section
variable {X : Cx} {cx : CXT} {k : Nat} {f : Addr} {fd : FuncData} {ps : List Str} {sp : Sp} {dvs : List V} {ds : List Value} {E : L2.St → XK} {x : Str} {p pos : Pos}
theorem GFn.call {pins : List (Addr × Obj)} {σ : L2.St} {H : Hp} {s : Shared} {Q : VK} {us : List Value} {vs : List V} (F : GFn X.prog X.w X.K X.mg X.base cx k f fd ps sp) (g : X.A.guards = some []) (rm : Room k X.A) (bd : Binds X.K fd ps ds) (dv : Vals dvs ds) (px : PassesAt cx X σ (E σ))
    (I : Inv X pins σ H s) (rv : Vals vs us) (q : sp (vs ++ dvs) H Q (E σ)) : wpAny (model X.prog X.w) X.A (call (.ref f) us) (EP X pins σ Q) X.xe s := by
  have rw2 := rv.append dv
  have n1 : (us ++ ds).length = ps.length := rw2.length.symm.trans (F.lenG _ _ _ _ q)
  refine wpAny_call (codeAny_mono (F.goes X.A X.stack s H ⟨us, []⟩ _ _ Q (E σ) g rm I.env0 (bd s us I.kIn n1) rw2 q) fun res s' z => ?_)
  match res, z with
  | .error e, z => exact px pins H s e s' I z
  | .ok (.ret u), z => exact I.after z
  | .ok .next, z => exact z.elim
  | .ok .brk, z => exact z.elim
  | .ok .cont, z => exact z.elim
theorem pe_callG {e : Expr} {es : List Expr} {t : TA} (F : GFn X.prog X.w X.K X.mg X.base cx k f fd ps sp) (g : X.A.guards = some []) (rm : Room k X.A) (hg : Gl X x) (hm : X.mg x = some (.ref f)) (hk : PySem.W.keepIn X.K (.ref f) = true) (bd : Binds X.K fd ps ds) (dv : Vals dvs ds) (px : ∀ σ, PassesAt cx X σ (E σ))
    (ha : PA X (e :: es) t) (hdb : (x == ("__debug__" : Str)) = false) (he : starEach (e :: es) X.env = (false, eval e X.env) :: starEach es X.env) (hpl : (backTo pos (starEach es X.env)).any (·.1) = false) :
    PE X (.Call (.Name x p) (e :: es) [] pos) (tCallSD sp dvs E t) :=
  ⟨fun pins s σ H Q I h => wpAny_Call_Name_kw (ld_glob I hg hm (PySem.W.callWith_K (h₀ := X.base) I.ok.mod.kin hk (thn (ha.run pos pins s σ H _ I h) fun us s1 ⟨vs, H1, I1, r, q⟩ => ⟨I1.kIn, F.call g rm bd dv (px σ) I1 r q⟩) he hpl) hdb)⟩
theorem pe_call0G (F : GFn X.prog X.w X.K X.mg X.base cx k f fd ps sp) (g : X.A.guards = some []) (rm : Room k X.A) (hg : Gl X x) (hm : X.mg x = some (.ref f)) (hk : PySem.W.keepIn X.K (.ref f) = true) (bd : Binds X.K fd ps ds) (dv : Vals dvs ds) (px : ∀ σ, PassesAt cx X σ (E σ))
    (hdb : (x == ("__debug__" : Str)) = false) : PE X (.Call (.Name x p) [] [] pos) (tCallSD sp dvs E tNil) :=
  ⟨fun pins s σ H Q I h => wpAny_Call_Name_kw (ld_glob I hg hm (PySem.W.callWith_K0 I.kIn hk (F.call (us := []) g rm bd dv (px σ) I .nil h)) hdb)⟩
end
/-! ### a law's call -/
open Classical in
theorem law_callG {P : Program} {w : World} {K : PySem.W.Frag} {mg mb : Str → Option Value} {cx : CXT} {k : Nat} {fa a : Addr} {fd : FuncData} {x : Str} {sp : Sp} {s1 : Shared} {us : List Value} {ns : List Int}
    (kin : K.In s1.heap) (nsg : s1.heap.Ns mainGlobals mg) (nsb : s1.heap.Ns builtinsNs mb) (hbb : ∀ x : Str, x ≠ "__name__" → mb x = bootBuiltins x) (lim : s1.heap.NoLimit) (hgen : s1.gens = #[])
    (ha : s1.heap.get? a = some { cls := .type "list", data := .seq us.toArray }) (hi : IntsAre us ns) (hn : ns.length ≤ sizeLine) (rm : Room k callerA)
    (F : ∀ base : Heap, K.In base → base.Ns mainGlobals mg → GFn P w K mg base cx k fa fd [x] sp) (bd : ∀ (s : Shared) (u : Value), BindsTo s fd ⟨[u], []⟩ [(x, u)])
    (hsp : ∀ H : Hp, Only H → SqL K H a (ns.map V.int) → sp [.ref a] H (fun v _ => v = .bl true) fun _ _ _ => False) (hcx : ∀ H e s', cx [] H s1 (fun _ _ _ => False) e s' → False) :
    codeAny (model P w) callerA (.call (.ref fa) ⟨[.ref a], []⟩) (fun r s' => r = .ok (.ret (.bool true)) ∧ OldK s1.heap s'.heap ∧ s'.os = s1.os ∧ AllBare s'.gens) s1 := by
  -- what is tracked: the script, unless it is an object of the module
  let ob : Obj := { cls := .type "list", data := .seq us.toArray }
  let H : Hp := fun b => if b = a ∧ K.lookup a = none then some (.frz ob (.lst (ns.map V.int))) else none
  have rv := vals_ints hi
  have at' : ∀ b u, H b = some u → b = a ∧ K.lookup a = none ∧ u = .frz ob (.lst (ns.map V.int)) := fun b u e => by
    by_cases c : b = a ∧ K.lookup a = none
    · have : H b = some (.frz ob (.lst (ns.map V.int))) := if_pos c
      rw [this] at e; cases e
      exact ⟨c.1, c.2, rfl⟩
    · have : H b = none := if_neg c
      rw [this] at e; cases e
  have only : Only H := fun b => by
    cases e : H b with
    | none => exact .inl rfl
    | some u => exact .inr ⟨_, _, by rw [(at' b u e).2.2]⟩
  have hok : HOk P w H s1.heap := fun b u e => by
    obtain ⟨rfl, _, rfl⟩ := at' b u e
    exact ⟨ha, by rw [List.length_map]; exact hn, us, _, rv, ha⟩
  have seq : SqL K H a (ns.map V.int) := by
    cases e : K.lookup a with
    | none => exact .inl (.inr ⟨ob, if_pos ⟨rfl, e⟩⟩)
    | some o =>
      have := kin a o e
      rw [ha] at this; cases this
      exact .inr ⟨_, us.toArray, _, e, rfl, rfl, rfl, by rw [List.size_toArray, hi.length]; exact hn, by simpa using rv⟩
  have dct : ∀ {b : Addr} {o : Obj} {es : Array DictEntry} {n : Nat}, s1.heap.get? b = some o → o.data = .dict es n → H b = none := fun {b o es n} e d => by
    cases c : H b with
    | none => rfl
    | some u =>
      obtain ⟨rfl, _, _⟩ := at' b u c
      rw [ha] at e; cases e; cases d
  have hid : ∀ {b : Addr} {m : Str → Option Value}, s1.heap.Ns b m → (hidT s1.heap H).Ns b m := fun ⟨o, es, n, e, d, r⟩ => ⟨o, es, n, hidT_get e (dct e d), d, r⟩
  have kin2 : K.In (hidT s1.heap H) := fun b o e => hidT_get (kin b o e) (by
    cases c : H b with
    | none => rfl
    | some u =>
      obtain ⟨rfl, z, _⟩ := at' b u c
      rw [z] at e; cases e)
  obtain ⟨mc, l1, l2⟩ := lim
  have e0 : Env0 P w K mg (hidT s1.heap H) callerA [] s1 H := ⟨rfl, ⟨kin2, hid nsg, ⟨mb, hid nsb, hbb⟩, ⟨mc, hid l1, l2⟩⟩, fun b o e => of_hidT e, Nat.le_of_eq (hidT_size _ _), trivial, fun b hb => absurd hb (by simp [frs]), hok, AllBare.of_eq hgen⟩
  refine codeAny_mono ((F _ kin2 (hid nsg)).goes callerA [] s1 H _ [.ref a] [.ref a] _ _ rfl rm e0 (bd s1 (.ref a)) (.cons rfl .nil) (hsp H only seq)) fun res s' z => ?_
  match res, z with
  | .error e, z => exact (hcx H e s' z).elim
  | .ok .next, z => exact z.elim
  | .ok .brk, z => exact z.elim
  | .ok .cont, z => exact z.elim
  | .ok (.ret u), ⟨v, H', os, bare, un, hok', r', q⟩ =>
    cases (show v = .bl true from q)
    cases (show u = Value.bool true from r')
    refine ⟨rfl, OldK.of_keep fun b o e => ?_, os, bare⟩
    cases c : H b with
    | none => exact un.keep b o e c (fun z => by cases z) (fun z => by cases z)
    | some t =>
      obtain ⟨_, _, rfl⟩ := at' b t c
      have s0 := (hok b _ c).1
      have s1' := (hok' b _ (un.frzs b ob _ c)).1
      rw [e] at s0; cases s0
      exact s1'
theorem walk_ofG {l : PySem.W.OpenLaw} {n k : Nat} {q : Program} {loose : List Str} {XP : (Str → Option Value) → Heap → Prop} {YP : World → Heap → Prop} {d : DefRec} {cx : CXT} {x : Str}
    (hn : l.most = some n) (hn2 : n ≤ sizeLine) (hdf : d.params.defaults = []) (rm : Room k callerA)
    (F : ∀ (w : World) (mg : Str → Option Value) (fa : Addr) (h : Heap), YP w h → h.Ns mainGlobals mg → mg d.name = some (.ref fa) →
      ∃ (K : PySem.W.Frag) (fd : FuncData) (sp : Sp), K.In h ∧ (∀ (s : Shared) (u : Value), BindsTo s fd ⟨[u], []⟩ [(x, u)]) ∧
        (∀ (H : Hp) (a : Addr) (ns : List Int), ns.length ≤ n → Only H → SqL K H a (ns.map V.int) → sp [.ref a] H (fun v _ => v = .bl true) fun _ _ _ => False) ∧
        ∀ base : Heap, K.In base → base.Ns mainGlobals mg → GFn l.prog w K mg base cx k fa fd [x] sp)
    (hcx : ∀ (H : Hp) (s : Shared) (e : Value) (s' : Shared), cx [] H s (fun _ _ _ => False) e s' → False) : PySem.W.WalkO q loose XP YP l.row.toRowW d [] (fun f vs => PySem.call f vs) := by
  refine Att.attach_call hn hdf fun w s0 s1 mg mb fa o pm cd doc a us ns G Y ho hd hcd hmg hob hin hle hgen => ?_
  obtain ⟨K, fd, sp, kin, bd, hsp, hF⟩ := F w mg fa _ Y G.T.g hmg
  exact law_callG kin G.T.g G.T.b G.T.builtins G.T.nolimit hgen hob hin (Nat.le_trans hle hn2) rm hF bd (fun H ho hs => hsp H a ns hle ho hs) fun H e s' => hcx H s1 e s'
end Mi
/-! MiW: enumerate of a tuple. -/
namespace Mi
open PySem PySem.Spec PyProof.Rows L2
theorem meets_enum1 {v : Value} {o : Obj} {Hh : Heap → Prop} (B : Begins v o Hh) :
    Meets (Builtin.«enumerate.__new__» ⟨[.type "enumerate", v], []⟩) (fun _ R s => Hh s.heap ∧
      R (.ok (.ret (.ref (s.heap.push o).objs.size))) { s with heap := (s.heap.push o).push { cls := .type "enumerate", data := .fields #[.none, .bool false, .ref s.heap.objs.size, rawInt 0, .none, .none] } }) :=
  .of_wp fun P w B' R s z => by
    obtain ⟨hp, g, dr, tk, os⟩ := s
    obtain ⟨z1, z2⟩ := z
    have hsub := sub_enumerate
    have q1 : ∀ {A' : Around} {E : Value → Shared → Prop} {Q : Value → Shared → Prop}, Q (.ref hp.objs.size) ⟨hp.push o, g, dr, tk, os⟩ → wpAny (model P w) A' (pyIter v) Q E ⟨hp, g, dr, tk, os⟩ :=
      fun q => B.iter P w _ _ _ _ z1 q
    wp_walk using q1
    refine wpAny_stack_any fun st => wpAny_pure ?_
    split
    · rename_i c _ _ _ _ _
      cases (c == Value.type "enumerate") <;> (wp_walk using q1; exact ⟨_, rfl, z2⟩)
    · wp_walk using q1
      exact ⟨_, rfl, z2⟩
theorem call_enum_tup {P : Program} {w : World} {A : Around} {E : Value → Shared → Prop} {s : Shared} {t : Addr} {items : Array Value} {Q : Value → Shared → Prop} (ht : s.heap.IsTuple t items)
    (h : ∀ h', IsEnum h' (s.heap.objs.size + 1) s.heap.objs.size 0 .none → h'.IsTupleIter s.heap.objs.size t 0 → (∀ b o, s.heap.get? b = some o → h'.get? b = some o) → Q (.ref (s.heap.objs.size + 1)) { s with heap := h' }) :
    wpAny (model P w) A (call (.type "enumerate") [.ref t]) Q E s := by
  have B := begins_tuple t items
  refine callType_new F.called_enumerate (by decide) (F.typeCall_enumerate_1 _) (F.newCall_enumerate_1 _) (fun obj => F.args_object_init_2 obj _) F.entry_enumerate_new (meets_enum1 B) ⟨ht, ?_⟩
  let o : Obj := { cls := .type "tuple_iterator", data := .fields #[.ref t, .int 0 0] }
  have z1 : (s.heap.push o).objs.size = s.heap.objs.size + 1 := Heap.size_push ..
  show _ ∧ _
  rw [show (s.heap.push { cls := .type "tuple_iterator", data := .fields #[.ref t, .int 0 0] }).objs.size = s.heap.objs.size + 1 from z1]
  let e : Obj := { cls := .type "enumerate", data := .fields #[.none, .bool false, .ref s.heap.objs.size, rawInt 0, .none, .none] }
  have g1 : ((s.heap.push o).push e).get? (s.heap.objs.size + 1) = some e := by
    have := Heap.get?_push_size (s.heap.push o) (o := e) rfl
    rwa [z1] at this
  have g0 : ((s.heap.push o).push e).get? s.heap.objs.size = some o := Heap.get?_push_of_some _ (Heap.get?_push_size _ rfl)
  exact ⟨⟨_, g1, rfl⟩, h _ g1 ⟨_, g0, rfl, rfl⟩ fun b u x => Heap.get?_push_of_some _ (Heap.get?_push_of_some _ x)⟩
/-- the pairs of a tuple's numbers and items -/
def IteT (K : PySem.W.Frag) (a : Addr) : It :=
  ⟨fun i H => ∃ (xs : List V) (x : V), SqT K H a xs ∧ xs[i]? = some x, fun i H v H' => ∃ t x, v = .ref t ∧ H t = none ∧ H' = upd H t (.tup [.int (i : Nat), x]) ∧ ∀ xs, SqT K H a xs → xs[i]? = some x, fun i H => ∃ xs : List V, SqT K H a xs ∧ xs.length ≤ i⟩
theorem apart_it {h : Heap} {a it : Addr} {i : Nat} {items : Array Value} (ht : h.IsTuple a items) (hi : h.IsTupleIter it a i) : a ≠ it := fun z => by
  obtain ⟨o, e1, c1, _⟩ := ht
  obtain ⟨o', e2, c2, _⟩ := hi
  subst z
  rw [e1] at e2; cases e2
  rw [c1] at c2
  exact absurd (Value.type.inj c2) (by decide)
theorem apart_en {h : Heap} {a it e : Addr} {c : Int} {old : Value} {items : Array Value} (ht : h.IsTuple a items) (he : IsEnum h e it c old) : e ≠ a := fun z => by
  obtain ⟨o, e1, c1, _⟩ := ht
  subst z
  have e2 := he
  unfold IsEnum at e2
  rw [e1] at e2; cases e2
  exact absurd (Value.type.inj c1) (by decide)
theorem turn_enumT {P : Program} {w : World} {K : PySem.W.Frag} {elts : List Expr} {kk : Nat} {tpos : Pos} (a e it : Addr) :
    Turn P w K (.Tuple elts kk tpos) (IteT K a) [e, it] e (fun i h => (∃ old, IsEnum h e it ((i : Nat) : Int) old) ∧ h.IsTupleIter it a i ∧ e ≠ it) where
  mem := by simp
  obj := fun i h z b hb => by
    obtain ⟨⟨old, z1⟩, ⟨o, z2, _, z3⟩, _⟩ := z
    simp only [List.mem_cons, List.not_mem_nil, or_false] at hb
    rcases hb with rfl | rfl
    · exact ⟨_, z1, fun v q => nomatch q⟩
    · exact ⟨o, z2, fun v q => by rw [z3] at q; cases q⟩
  keep := fun i h h' z k => by
    obtain ⟨⟨old, z1⟩, ⟨o, z2, z4⟩, z3⟩ := z
    exact ⟨⟨old, k e (by simp) _ z1⟩, ⟨o, k it (by simp) _ z2, z4⟩, z3⟩
  item := by
    intro X hP hw hK hc i pins s σ H E I hf z hg
    subst hP hw hK
    obtain ⟨⟨old, he⟩, hit, hne⟩ := z
    obtain ⟨xs, x, hq, hx⟩ := hg
    obtain ⟨its, rv, p, hz⟩ := I.tuple hq
    have tp : s.heap.IsTuple a its.toArray := p
    obtain ⟨u, hu, ru⟩ := rv.get hx
    have el : e < s.heap.objs.size := Heap.lt_size he
    have il : it < s.heap.objs.size := by obtain ⟨_, q, _⟩ := hit; exact Heap.lt_size q
    have hai := apart_it tp hit
    have hea := apart_en tp he
    have hlt : i < its.toArray.size := by
      have := (List.getElem?_eq_some_iff.mp hu).1
      simpa using this
    refine wpAny_pyNext_enum_itemD (Draws.tuple (A := X.A.in1) (by have := I.ok.hd hc; exact this) it a hai its.toArray) he ⟨hit, tp⟩ hlt hne (by simp [hne, hea]) fun y h' tk hy ho hst ht hsz hk => ?_
    have hy : y = u := by
      have e1 : its[i]? = some y := by simpa using hy
      rw [hu] at e1
      exact (Option.some.inj e1).symm
    subst hy
    refine ⟨_, rfl, wpAny_letOwnedTupleGo_enum (s := { s with heap := h', toks := tk + 1 }) ho fun h2 he2 sb => ?_⟩
    have ht2 : h2.get? s.heap.objs.size = some { cls := .type "tuple", data := .seq #[.int i tk, y] } := (sb.2 _ (Nat.ne_of_gt el)).trans ht
    have nw : ObjOk X.prog X.w (upd H s.heap.objs.size (.tup [.int (i : Nat), x])) h2 s.heap.objs.size (.tup [.int (i : Nat), x]) :=
      ⟨by show 2 ≤ sizeLine; decide, [.int i tk, y], .cons ⟨_, rfl⟩ (.cons ru .nil), ⟨_, ht2, rfl, _, rfl⟩⟩
    have I1 : Inv X pins σ (upd H s.heap.objs.size (.tup [.int (i : Nat), x])) { s with heap := h2, toks := tk + 1 } :=
      I.turnedNew (ch := [e, it]) (fun b ob hb q => (sb.2 b (fun z => hb (by simp [z]))).trans (hk b ob (fun z => hb (by simp [z])) (fun z => hb (by simp [z])) q)) hf (Nat.le_refl _) nw
    refine ⟨.ref s.heap.objs.size, _, I1, rfl, ⟨_, x, rfl, I.hok.fresh (Nat.le_refl _), rfl, fun ys hys => by rw [I.tuple_inj hys hq]; exact hx⟩, ⟨⟨y, ?_⟩, ?_, hne⟩, fun b hb => ?_⟩
    · have e1 : ((i + 1 : Nat) : Int) = (i : Int) + 1 := by omega
      rw [e1]; exact he2
    · obtain ⟨o, q1, q2⟩ := hst.1
      exact ⟨o, (sb.2 it (Ne.symm hne)).trans q1, q2⟩
    · have hb' : b < s.heap.objs.size := by
        simp only [List.mem_cons, List.not_mem_nil, or_false] at hb
        rcases hb with rfl | rfl
        · exact el
        · exact il
      rw [upd_ne (Nat.ne_of_lt hb')]
      exact (hf b hb).1
  done := by
    intro X hP hw hK hc i pins s σ H E I hf z hg
    subst hP hw hK
    obtain ⟨⟨old, he⟩, hit, hne⟩ := z
    obtain ⟨xs, hq, hx⟩ := hg
    obtain ⟨its, rv, p, hz⟩ := I.tuple hq
    have tp : s.heap.IsTuple a its.toArray := p
    obtain ⟨f0, f1, f2, f3, f4, f5⟩ := hf it (by simp)
    have hai := apart_it tp hit
    have T : s.heap.IsTupleIter it a i ∧ s.heap.IsTuple a its.toArray := ⟨hit, tp⟩
    have hT : s.TypeIs (.ref e) "enumerate" := ⟨_, he, rfl⟩
    unfold pyNext
    refine wpAny_bind (wpAny_attempt (wpAny_callSpecial?_slot (name := Str.ofString "__next__") hT F.slot_enumerate_next (wpAny_call_entry F.slot_enumerate_next hT F.entry_enumerate_next ?_ (F.args_enumerate_next_1 _))))
    show wpAny _ _ (field (.ref e) 2 >>= _) _ _ _
    refine wpAny_bind (wpAny_field he rfl (x := .ref it) rfl ?_)
    refine wpAny_bind (wpAny_nextOf_tuple_end (I.ok.hd hc) hit tp (by simp; have := rv.length; omega) fun h' x he' hx' => ?_)
    obtain ⟨o, ho, hcl⟩ := hx'
    refine wpAny_bind (wpAny_isInstance (T := "StopIteration") (b := true) ⟨o, ho, hcl⟩ isSubtype_stop (wpAny_pure ?_))
    exact ⟨rfl, I.turned (t' := s.toks) (fun b u hb q => he' b u hb q) f0 f1 f3 f4 f5⟩
  self := fun A i s Q E z h => let ⟨⟨_, he⟩, _⟩ := z; wpAny_pyIter_enum he h
/-- enumerate of a list, of a tuple -/
def iEnum2 (K : PySem.W.Frag) (ta : TA) : TI := fun σ H R => ta σ H fun vs H1 => ∃ a xs, vs = [.ref a] ∧ ((SqL K H1 a xs ∧ R (Ite K a) H1) ∨ (SqT K H1 a xs ∧ R (IteT K a) H1))
theorem pi_enum2 {X : Cx} {e : Expr} {ta : TA} {p pos tpos : Pos} {elts : List Expr} {kk : Nat} (hg : Gl X "enumerate") (hm : X.mg "enumerate" = none) (ha : PA X [e] ta) (hs : starEach [e] X.env = [(false, eval e X.env)]) :
    PI X (.Tuple elts kk tpos) (.Call (.Name "enumerate" p) [e] [] pos) (iEnum2 X.K ta) := by
  refine ⟨fun pins s σ H R I h => Call_ (ld_blt I hg hm boot_enumerate (callWith_type1 (thn (ha.run pos pins s σ H _ I h) fun us s1 ⟨vs, H1, I1, r1, a, xs, ex, q⟩ => ?_) hs rfl))⟩
  subst ex
  obtain ⟨u, rfl, ru⟩ := vals1 r1
  cases (show u = Value.ref a from ru)
  have fp : ∀ b ∈ [s1.heap.objs.size + 1, s1.heap.objs.size], FpOk X pins H1 b := fun b hb => by
    have le : s1.heap.objs.size ≤ b := by
      simp only [List.mem_cons, List.not_mem_nil, or_false] at hb
      rcases hb with rfl | rfl
      · exact Nat.le_add_right _ _
      · exact Nat.le_refl _
    exact I1.fpOk le (I1.hok.fresh le)
  rcases q with ⟨hq, q⟩ | ⟨hq, q⟩
  · obtain ⟨its, rv, p', hz⟩ := I1.list hq
    refine call_enumerate_list p'.isList fun h' he hit hsz hk => wpAny_pyIter_enum he ?_
    exact ⟨_, _, _, _, H1, rfl, I1.kept (t' := s1.toks) hk, turn_enum a (s1.heap.objs.size + 1) s1.heap.objs.size, ⟨⟨.none, he⟩, hit, Nat.succ_ne_self _⟩, fp, q⟩
  · obtain ⟨its, rv, p', hz⟩ := I1.tuple hq
    refine call_enum_tup (show s1.heap.IsTuple a its.toArray from p') fun h' he hit hk => wpAny_pyIter_enum he ?_
    exact ⟨_, _, _, _, H1, rfl, I1.kept (t' := s1.toks) hk, turn_enumT a (s1.heap.objs.size + 1) s1.heap.objs.size, ⟨⟨.none, he⟩, hit, Nat.succ_ne_self _⟩, fp, q⟩
end Mi
/-! MiG: a checked text's run is its term's meaning: expressions. -/
namespace Mi
open PySem PySem.Spec L2

def atomV : D → V
  | .non => .non
  | .bl b => .bl b
  | .int i => .int i
  | .str s => .str s
  | _ => .non
theorem atomEq_rd {K : PySem.W.Frag} {H : Hp} {m : Pl} : ∀ {x y : D}, atomEq x y = true → RD K H m x (atomV x) := by
  intro x y h
  cases x <;> cases y <;> first | exact .non | exact .bl _ | exact .int _ | exact .str _ | simp [atomEq] at h
theorem atomsEq_rd {K : PySem.W.Frag} {H : Hp} {m : Pl} : ∀ {xs ys : List D}, atomsEq xs ys = true → RDs K H m xs (xs.map atomV)
  | [], [], _ => .nil
  | x :: xs, y :: ys, h => by
    simp only [atomsEq, Bool.and_eq_true] at h
    exact .cons (atomEq_rd h.1) (atomsEq_rd h.2)
  | [], _ :: _, h => by cases h
  | _ :: _, [], h => by cases h

/-- what a def promises -/
def PostX (K : PySem.W.Frag) (cls : Nat → Value) (m : Pl) (H : Hp) (Q : VK) (E : XK) : R D → Prop
  | .ok d st' => ∀ m' v H', Ext H H' m m' → SimS K H' m' st' → RD K H' m' d v → Q v H'
  | .exc c st' => ∀ m' H', Ext H H' m m' → SimS K H' m' st' → E (cls c) none H'
  | .fault => False
def spD (K : PySem.W.Frag) (cls : Nat → Value) (f : List D → Store → R D) : Sp := fun vs H Q E => ∃ m st ds, SimS K H m st ∧ RDs K H m ds vs ∧ PostX K cls m H Q E (f ds st)
def FnFact (X : Cx) (cls : Nat → Value) (n : Nat) (f : List D → Store → R D) (fn : Fn) : Prop :=
  ∃ (a : Addr) (fd : FuncData) (ps : List Str), GFn X.prog X.w X.K X.mg X.base (L2.CX X.prog X.w) n a fd ps (spD X.K cls f) ∧ X.mg fn.name = some (.ref a) ∧ PySem.W.keepIn X.K (.ref a) = true ∧
    ∀ k, k ≤ fn.dfl.length → ∃ ds, Vals ((fn.dfl.drop (fn.dfl.length - k)).map atomV) ds ∧ Binds X.K fd ps ds
def bnames : List String := ["len", "int", "bool", "abs", "max", "min", "sum", "all", "any", "list", "tuple", "str", "sorted", "repr", "set", "dict", "isinstance", "range", "enumerate", "zip", "ValueError"]
/-- the module's constants -/
def GlFact (K : PySem.W.Frag) (mg : Str → Option Value) (gs : List (Str × D)) : Prop := ∀ p ∈ gs, ∃ (v : V) (u : Value), mg p.1 = some u ∧ RelV v u ∧ ∀ (H : Hp) (m : Pl) (st : Store), SimS K H m st → RD K H m p.2 v
/-- the classes of exceptions -/
def XFact (K : PySem.W.Frag) (mg : Str → Option Value) (xs : List Nat) : Prop := ∀ c ∈ xs, ClsOk K c ∧ mg (excN c) = some (clsV K c)
structure Good (T : Tab) (n : Nat) (cls : Nat → Value) (N : List Str) (X : Cx) : Prop where
  calm : T.hot = false → X.calm = true
  nm : X.N = N
  nd : N.Nodup
  room : T.hot = false → Room n X.A
  units : X.A.units + 64 < cLine
  free : ∀ x : String, x ∈ bnames → X.mg (x : Str) = none
  fns : T.hot = false → ∀ i fn, T.T[i]? = some fn → FnFact X cls n (callN T.T n i) fn
  gls : GlFact X.K X.mg T.gs
  gd : X.A.guards = some []
  xf : XFact X.K X.mg T.xs
  cl : ∀ c, cls c = clsV X.K c
theorem PE.imp {X : Cx} {e : Expr} {t t' : TE} (h : PE X e t) (hi : ∀ σ H Q, t' σ H Q → t σ H Q) : PE X e t' := ⟨fun pins s σ H Q I q => h.run pins s σ H Q I (hi σ H Q q)⟩
theorem PT.imp {X : Cx} {e : Expr} {t t' : TT} (h : PT X e t) (hi : ∀ σ H Q, t' σ H Q → t σ H Q) : PT X e t' := ⟨fun pins s σ H Q I q => h.run pins s σ H Q I (hi σ H Q q)⟩
theorem PA.imp {X : Cx} {e : List Expr} {t t' : TA} (h : PA X e t) (hi : ∀ σ H Q, t' σ H Q → t σ H Q) : PA X e t' := ⟨fun pos pins s σ H Q I q => h.run pos pins s σ H Q I (hi σ H Q q)⟩
theorem PI.imp {X : Cx} {tg e : Expr} {t t' : TI} (h : PI X tg e t) (hi : ∀ σ H Q, t' σ H Q → t σ H Q) : PI X tg e t' := ⟨fun pins s σ H Q I q => h.run pins s σ H Q I (hi σ H Q q)⟩

/-! ### side conditions of the text -/
theorem star_plain {x : Expr} {xs : List Expr} {env : PySem.Env} (h : plainE x = true) : starEach (x :: xs) env = (false, eval x env) :: starEach xs env := by
  cases x <;> first | rfl | cases h
theorem marks_plain {op : CmpOp} {y : Expr} (h : plainE y = true) : behindInMarks op y = false := by
  cases y <;> first | rfl | cases h
theorem fold_plain {y : Expr} {env : PySem.Env} (h : plainE y = true) : ∀ x, foldedSetIterable y env x = pure x := by
  intro x
  cases y <;> first | rfl | cases h
theorem ix_plain {y : Expr} (h : notSlice y = true) : PlainIx y := by
  intro o i
  cases y <;> first | rfl | cases h
theorem swaps_plain {y : Expr} {t : Option Expr} {l : Nat} {env : PySem.Env} (h : ∀ a b c d, y ≠ .ListComp a b c d) (h1 : ∀ a b c d, y ≠ .SetComp a b c d) (h2 : ∀ a b c d e, y ≠ .DictComp a b c d e) : swapsWith y t l env = pure false := by
  cases y <;> first | rfl | exact absurd rfl (h _ _ _ _) | exact absurd rfl (h1 _ _ _ _) | exact absurd rfl (h2 _ _ _ _ _)
theorem backTo_any {pos : Pos} {env : PySem.Env} : ∀ {es : List Expr}, es.all plainE = true → (backTo pos (starEach es env)).any (·.1) = false
  | [], _ => rfl
  | e :: es, h => by
    simp only [List.all_cons, Bool.and_eq_true] at h
    have ih := backTo_any (pos := pos) (env := env) h.2
    rw [star_plain h.1]
    unfold backTo at ih ⊢
    simp only [List.map_cons, List.any_cons, ih, Bool.false_or]
section
variable {T : Tab} {N : List Str}
theorem chkEs_plain : ∀ {sc : Scope} {as : List E} {xs : List Expr}, chkEs T N sc as xs = true → xs.all plainE = true
  | _, [], [], _ => rfl
  | _, [], _ :: _, h => by cases h
  | _, _ :: _, [], h => by cases h
  | sc, a :: as, x :: xs, h => by
    simp only [chkEs, Bool.and_eq_true] at h
    simp only [List.all_cons, h.1.1, chkEs_plain h.2]; rfl
theorem chkEs_len : ∀ {sc : Scope} {as : List E} {xs : List Expr}, chkEs T N sc as xs = true → as.length = xs.length
  | _, [], [], _ => rfl
  | _, [], _ :: _, h => by cases h
  | _, _ :: _, [], h => by cases h
  | sc, a :: as, x :: xs, h => by
    simp only [chkEs, Bool.and_eq_true] at h
    simp only [List.length_cons, chkEs_len h.2]
end
theorem constIs_pe {X : Cx} {c : Const} {d : D} {j : Nat} {pos : Pos} (h : constIs c d = true) : PE X (.Constant c j pos) (tC (atomV d)) ∧ ∀ (K : PySem.W.Frag) (H : Hp) (m : Pl), RD K H m d (atomV d) := by
  cases c <;> cases d <;> first | cases h | skip
  · exact ⟨pe_non, fun _ _ _ => .non⟩
  · simp only [constIs, beq_iff_eq] at h; subst h; exact ⟨pe_bl, fun _ _ _ => .bl _⟩
  · simp only [constIs, beq_iff_eq] at h; subst h; exact ⟨pe_int, fun _ _ _ => .int _⟩
  · simp only [constIs, beq_iff_eq] at h; subst h; exact ⟨pe_str, fun _ _ _ => .str _⟩

/-! ### combinators -/
section
variable {X : Cx} {cls : Nat → Value} {W : WX}
theorem tE_op {fa fb : Env → Store → R D} {g : D → D → Store → R D} {σ : L2.St} {H : Hp} {Q : VK}
    (h : tE X.K cls W (fun ρ st => (fa ρ st).bind fun x st => (fb ρ st).bind fun y st => g x y st) σ H Q) : tOp (rB X.K cls g) (tE X.K cls W fa) (tE X.K cls W fb) σ H Q := by
  obtain ⟨m, ρ, st, hE, hS, hP⟩ := h
  refine tG.of hE hS hP fun d st1 m1 v H1 _ _ hE1 hS1 r1 hP1 => ?_
  refine tG.of hE1 hS1 hP1 fun e st2 m2 w H2 _ x2 hE2 hS2 r2 hP2 => ?_
  exact ⟨W, σ, m2, st2, d, e, hS2, r1.mono hS1.cells x2, r2, hP2⟩
theorem tE_test {fc : Env → Store → R Bool} {fa fb : Env → Store → R D} {σ : L2.St} {H : Hp} {Q : VK}
    (h : tE X.K cls W (fun ρ st => (fc ρ st).bind fun k st => if k then fa ρ st else fb ρ st) σ H Q) : tIf (tT X.K cls W fc) (tE X.K cls W fa) (tE X.K cls W fb) σ H Q := by
  obtain ⟨m, ρ, st, hE, hS, hP⟩ := h
  refine tG.of hE hS hP fun k st1 m1 v H1 _ _ hE1 hS1 r1 hP1 => ?_
  subst r1
  cases k with
  | true => exact ⟨m1, ρ, st1, hE1, hS1, hP1⟩
  | false => exact ⟨m1, ρ, st1, hE1, hS1, hP1⟩
theorem tA_cons {fa : Env → Store → R D} {fb : Env → Store → R (List D)} {σ : L2.St} {H : Hp} {Q : List V → Hp → Prop}
    (h : tL X.K cls W (fun ρ st => (fa ρ st).bind fun d st => (fb ρ st).bind fun ds st => .ok (d :: ds) st) σ H Q) : tCons (tE X.K cls W fa) (tL X.K cls W fb) σ H Q := by
  obtain ⟨m, ρ, st, hE, hS, hP⟩ := h
  refine tG.of hE hS hP fun d st1 m1 v H1 _ _ hE1 hS1 r1 hP1 => ?_
  refine tG.of hE1 hS1 hP1 fun e st2 m2 w H2 _ x2 hE2 hS2 r2 hP2 => ?_
  exact hP2.here hS2 (.cons (r1.mono hS1.cells x2) r2)
theorem tB_of {fa : Env → Store → R D} {σ : L2.St} {H : Hp} {Q : Bool → Hp → Prop} (h : tT X.K cls W (fun ρ st => asBool (fa ρ st)) σ H Q) :
    tE X.K cls W fa σ H fun v H1 => ∃ k, TruV X.K v H1 k ∧ Q k H1 := by
  obtain ⟨m, ρ, st, hE, hS, hP⟩ := h
  refine tG.of hE hS hP fun d st1 m1 v H1 _ _ hE1 hS1 r1 hP1 => ?_
  cases e : truth st1 d with
  | none => rw [e] at hP1; exact False.elim hP1
  | some k => rw [e] at hP1; exact ⟨k, truth_ok hS1 r1 e, hP1.here hS1 rfl⟩
theorem asBool_and {r : R D} {f : Store → R D} : asBool (r.bind fun x st => match truth st x with
      | some true => f st
      | some false => .ok x st
      | none => .fault) = (asBool r).bind fun k st => if k then asBool (f st) else .ok false st := by
  cases r with
  | ok x st =>
    simp only [asBool, R.bind_ok]
    cases e : truth st x with
    | none => rfl
    | some k =>
      cases k with
      | true => rfl
      | false => simp only [R.bind_ok, e]; rfl
  | exc c s => rfl
  | fault => rfl
theorem asBool_or {r : R D} {f : Store → R D} : asBool (r.bind fun x st => match truth st x with
      | some true => .ok x st
      | some false => f st
      | none => .fault) = (asBool r).bind fun k st => if k then .ok true st else asBool (f st) := by
  cases r with
  | ok x st =>
    simp only [asBool, R.bind_ok]
    cases e : truth st x with
    | none => rfl
    | some k =>
      cases k with
      | false => rfl
      | true => simp only [R.bind_ok, e]; rfl
  | exc c s => rfl
  | fault => rfl
theorem asBool_not {r : R Bool} : asBool (r.bind fun k st => .ok (.bl (!k)) st) = r.bind fun k st => .ok (!k) st := by
  cases r <;> rfl
theorem asBool_ite {r : R Bool} {f g : Store → R D} : asBool (r.bind fun k st => if k then f st else g st) = r.bind fun k st => if k then asBool (f st) else asBool (g st) := by
  cases r with
  | ok k st => cases k <;> rfl
  | exc c s => rfl
  | fault => rfl
theorem tT_if {fc fa fb : Env → Store → R Bool} {σ : L2.St} {H : Hp} {Q : Bool → Hp → Prop}
    (h : tT X.K cls W (fun ρ st => (fc ρ st).bind fun k st => if k then fa ρ st else fb ρ st) σ H Q) : tT X.K cls W fc σ H fun c H1 => if c = true then tT X.K cls W fa σ H1 Q else tT X.K cls W fb σ H1 Q := by
  obtain ⟨m, ρ, st, hE, hS, hP⟩ := h
  refine tG.of hE hS hP fun k st1 m1 v H1 _ _ hE1 hS1 r1 hP1 => ?_
  subst r1
  cases k with
  | true => exact ⟨m1, ρ, st1, hE1, hS1, hP1⟩
  | false => exact ⟨m1, ρ, st1, hE1, hS1, hP1⟩
theorem pt_ifExp {c a b : Expr} {tc ta tb : TT} {pos : Pos} (hc : PT X c tc) (ha : PT X a ta) (hb : PT X b tb) : PT X (.IfExp c a b pos) (fun σ H Q => tc σ H fun k H1 => if k = true then ta σ H1 Q else tb σ H1 Q) := by
  refine ⟨fun pins s σ H Q I h => ?_⟩
  unfold PySem.isTrue
  refine wpAny_bind (thn (hc.run pins s σ H _ I h) fun d s1 ⟨H1, I1, q1⟩ => ?_)
  cases d with
  | true => exact ha.run pins s1 σ H1 Q I1 q1
  | false => exact hb.run pins s1 σ H1 Q I1 q1
/-- an expression's test, from its value -/
theorem pt_of {e : Expr} {t : TE} (h : PE X e t) (hp : testE e = false) : PT X e (fun σ H Q => t σ H fun v H1 => ∃ k, TruV X.K v H1 k ∧ Q k H1) := by
  refine pt_truth h ?_
  intro whole
  cases e <;> first | rfl | (cases hp; done) | (rename_i op _ _; cases op <;> first | rfl | cases hp)
end

/-! ### what a for walks -/
structure Walk (K : PySem.W.Frag) (xs : List D) (src : Option Src) (J : It) (L : Pl → Hp → Prop) : Prop where
  mono : ∀ {m m' H H'}, Ext H H' m m' → Cells H m → L m H → L m' H'
  same : ∀ {m m' H H'}, Same2 H H' m m' → L m H → L m' H'
  go : ∀ {m st H} {i : Nat}, SimS K H m st → stands st xs src → L m H → i < xs.length → J.go i H
  yld : ∀ {m st H} {i : Nat} {x : V} {H' : Hp}, SimS K H m st → stands st xs src → L m H → i < xs.length → J.yld i H x H' → ∃ d, xs[i]? = some d ∧ Ext H H' m m ∧ SimS K H' m st ∧ RD K H' m d x
  stop : ∀ {m st H}, SimS K H m st → stands st xs src → L m H → J.stop xs.length H
def relW (K : PySem.W.Frag) : Hp → Pl → List D × Option Src → It → Prop := fun H m w J => ∃ L, L m H ∧ Walk K w.1 w.2 J L
abbrev tW (K : PySem.W.Frag) (cls : Nat → Value) (W : WX) (f : Env → Store → R (List D × Option Src)) : TI := tG K cls (relW K) W f
theorem walk_list {K : PySem.W.Frag} {a : Addr} {vs : List V} {xs : List D} : Walk K xs none (Itl K a) (fun m H => SqF H m a vs ∧ RDs K H m xs vs) where
  mono := fun x c h => ⟨h.1.mono x, h.2.mono c x⟩
  same := fun x h => ⟨x.sqf h.1, h.2.same x⟩
  go := fun {m st H i} _ _ h hi => ⟨vs, vs[i]'(by rw [← h.2.length]; exact hi), .inl h.1.2, by simp⟩
  yld := fun {m st H i x H'} hS _ h hi y => by
    obtain ⟨rfl, y⟩ := y
    obtain ⟨d, hd, r⟩ := h.2.getV (y vs (.inl h.1.2))
    exact ⟨d, hd, Ext.refl, hS, r⟩
  stop := fun _ _ h => ⟨vs, .inl h.1.2, by rw [h.2.length]; exact Nat.le_refl _⟩
theorem walk_tup {K : PySem.W.Frag} {a : Addr} {vs : List V} {xs : List D} : Walk K xs none (Itt K a) (fun m H => SqT K H a vs ∧ RDs K H m xs vs) where
  mono := fun x c h => ⟨SqT.mono c x h.1, h.2.mono c x⟩
  same := fun x h => ⟨x.sqt h.1, h.2.same x⟩
  go := fun {m st H i} _ _ h hi => ⟨vs, vs[i]'(by rw [← h.2.length]; exact hi), h.1, by simp⟩
  yld := fun {m st H i x H'} hS _ h hi y => by
    obtain ⟨rfl, y⟩ := y
    obtain ⟨d, hd, r⟩ := h.2.getV (y vs h.1)
    exact ⟨d, hd, Ext.refl, hS, r⟩
  stop := fun _ _ h => ⟨vs, h.1, by rw [h.2.length]; exact Nat.le_refl _⟩
theorem walk_cell {K : PySem.W.Frag} {a : Addr} {l : Nat} {xs : List D} : Walk K xs (some (.inl l)) (Itl K a) (fun m _ => m.t[l]? = some a) where
  mono := fun x _ h => x.pre _ _ h
  same := fun x h => x.t _ _ h
  go := fun {m st H i} hS hs h hi => by
    obtain ⟨vs, h1, h2⟩ := hS.cell l a _ h hs
    exact ⟨vs, vs[i]'(by rw [← h2.length]; exact hi), SqL.of h1, by simp⟩
  yld := fun {m st H i x H'} hS hs h hi y => by
    obtain ⟨rfl, y⟩ := y
    obtain ⟨vs, h1, h2⟩ := hS.cell l a _ h hs
    obtain ⟨d, hd, r⟩ := h2.getV (y vs (SqL.of h1))
    exact ⟨d, hd, Ext.refl, hS, r⟩
  stop := fun {m st H} hS hs h => by
    obtain ⟨vs, h1, h2⟩ := hS.cell l a _ h hs
    exact ⟨vs, SqL.of h1, by rw [h2.length]; exact Nat.le_refl _⟩
theorem walk_str {K : PySem.W.Frag} {z : Str} : Walk K (chars z) none (Its z) (fun _ _ => True) where
  mono := fun _ _ _ => trivial
  same := fun _ _ => trivial
  go := fun {m st H i} _ _ _ hi => by
    show i < z.cps.size
    simpa [chars] using hi
  yld := fun {m st H i x H'} hS _ _ hi y => by
    obtain ⟨rfl, c, hc, rfl⟩ := y
    refine ⟨.str ⟨#[c]⟩, ?_, Ext.refl, hS, .str _⟩
    simp only [chars, List.getElem?_map, Array.getElem?_toList, hc]; rfl
  stop := fun _ _ _ => by
    show z.cps.size ≤ (chars z).length
    simp [chars]
theorem walk_range {K : PySem.W.Frag} {lo : Int} {n : Nat} : Walk K ((List.range n).map fun (k : Nat) => .int (lo + (k : Int))) none (Itr lo n) (fun _ _ => True) where
  mono := fun _ _ _ => trivial
  same := fun _ _ => trivial
  go := fun {m st H i} _ _ _ hi => by
    show i < n
    simpa using hi
  yld := fun {m st H i x H'} hS _ _ hi y => by
    obtain ⟨rfl, rfl⟩ := y
    refine ⟨.int (lo + i), ?_, Ext.refl, hS, .int _⟩
    simp at hi
    simp [hi]
  stop := fun _ _ _ => by
    show n ≤ ((List.range n).map _).length
    simp
theorem walk_rangeC {K : PySem.W.Frag} {lo c : Int} {n : Nat} : Walk K ((List.range n).map fun (k : Nat) => .int (lo + (k : Int) * c)) none (Itc lo c n) (fun _ _ => True) where
  mono := fun _ _ _ => trivial
  same := fun _ _ => trivial
  go := fun {m st H i} _ _ _ hi => by
    show i < n
    simpa using hi
  yld := fun {m st H i x H'} hS _ _ hi y => by
    obtain ⟨rfl, rfl⟩ := y
    refine ⟨.int (lo + (i : Int) * c), ?_, Ext.refl, hS, .int _⟩
    simp at hi
    simp [hi]
  stop := fun _ _ _ => by
    show n ≤ ((List.range n).map _).length
    simp
theorem rds_zip {K : PySem.W.Frag} {H : Hp} {m : Pl} {xs ys : List D} {vs ws : List V} {i : Nat} {x y : V} (r : RDs K H m xs vs) (q : RDs K H m ys ws) (hx : vs[i]? = some x) (hy : ws[i]? = some y) : ∃ d, (zipD xs ys)[i]? = some d ∧ ∃ a b, d = .tup [a, b] ∧ RD K H m a x ∧ RD K H m b y := by
  obtain ⟨a, ha, ra⟩ := r.getV hx
  obtain ⟨b, hb, rb⟩ := q.getV hy
  exact ⟨.tup [a, b], by simp [zipD, List.getElem?_zipWith, ha, hb], a, b, rfl, ra, rb⟩
theorem zip_len {K : PySem.W.Frag} {H : Hp} {m : Pl} {xs ys : List D} {vs ws : List V} (r : RDs K H m xs vs) (q : RDs K H m ys ws) : (zipD xs ys).length = min vs.length ws.length := by
  simp [zipD, r.length, q.length]
theorem walk_zipL {K : PySem.W.Frag} {a b : Addr} {vs ws : List V} {xs ys : List D} (np : ∀ ds, D.tup ds ∈ zipD xs ys → pairy ds = false) : Walk K (zipD xs ys) none (Itz K a b) (fun m H => (SqF H m a vs ∧ RDs K H m xs vs) ∧ SqF H m b ws ∧ RDs K H m ys ws) where
  mono := fun x c h => ⟨⟨h.1.1.mono x, h.1.2.mono c x⟩, h.2.1.mono x, h.2.2.mono c x⟩
  same := fun x h => ⟨⟨x.sqf h.1.1, h.1.2.same x⟩, x.sqf h.2.1, h.2.2.same x⟩
  go := fun {m st H i} _ _ h hi => by
    rw [zip_len h.1.2 h.2.2] at hi
    exact ⟨vs, ws, vs[i]'(by omega), ws[i]'(by omega), .inl h.1.1.2, .inl h.2.1.2, by simp, by simp⟩
  yld := fun {m st H i x H'} hS _ h hi y => by
    obtain ⟨t, x1, y1, rfl, ht, rfl, hx, hy⟩ := y
    obtain ⟨d, hd, p, q, rfl, r1, r2⟩ := rds_zip h.1.2 h.2.2 (hx vs (.inl h.1.1.2)) (hy ws (.inl h.2.1.2))
    have e := Ext.laid (o := .tup [x1, y1]) hS ht
    exact ⟨_, hd, e, hS.laid ht, .tup (SqT.of upd_same) (fun _ => upd_same) (fun k => by rw [np _ (List.mem_of_getElem? hd)] at k; cases k) (.cons (r1.mono hS.cells e) (.cons (r2.mono hS.cells e) .nil))⟩
  stop := fun {m st H} _ _ h => ⟨vs, ws, .inl h.1.1.2, .inl h.2.1.2, by rw [zip_len h.1.2 h.2.2]; omega⟩
theorem walk_zipT {K : PySem.W.Frag} {a b : Addr} {vs ws : List V} {xs ys : List D} (np : ∀ ds, D.tup ds ∈ zipD xs ys → pairy ds = false) : Walk K (zipD xs ys) none (RZ.ItzT K a b) (fun m H => (SqT K H a vs ∧ RDs K H m xs vs) ∧ SqT K H b ws ∧ RDs K H m ys ws) where
  mono := fun x c h => ⟨⟨SqT.mono c x h.1.1, h.1.2.mono c x⟩, SqT.mono c x h.2.1, h.2.2.mono c x⟩
  same := fun x h => ⟨⟨x.sqt h.1.1, h.1.2.same x⟩, x.sqt h.2.1, h.2.2.same x⟩
  go := fun {m st H i} _ _ h hi => by
    rw [zip_len h.1.2 h.2.2] at hi
    exact ⟨vs, ws, vs[i]'(by omega), ws[i]'(by omega), h.1.1, h.2.1, by simp, by simp⟩
  yld := fun {m st H i x H'} hS _ h hi y => by
    obtain ⟨t, x1, y1, rfl, ht, rfl, hx, hy⟩ := y
    obtain ⟨d, hd, p, q, rfl, r1, r2⟩ := rds_zip h.1.2 h.2.2 (hx vs h.1.1) (hy ws h.2.1)
    have e := Ext.laid (o := .tup [x1, y1]) hS ht
    exact ⟨_, hd, e, hS.laid ht, .tup (SqT.of upd_same) (fun _ => upd_same) (fun k => by rw [np _ (List.mem_of_getElem? hd)] at k; cases k) (.cons (r1.mono hS.cells e) (.cons (r2.mono hS.cells e) .nil))⟩
  stop := fun {m st H} _ _ h => ⟨vs, ws, h.1.1, h.2.1, by rw [zip_len h.1.2 h.2.2]; omega⟩
theorem enum_at {xs : List D} {i : Nat} {d : D} (h : xs[i]? = some d) : (enumD xs)[i]? = some (.tup [.int (i : Nat), d]) := by
  obtain ⟨hl, rfl⟩ := List.getElem?_eq_some_iff.mp h
  simp [enumD, List.getElem?_zipWith, hl]
theorem walk_enumL {K : PySem.W.Frag} {a : Addr} {vs : List V} {xs : List D} : Walk K (enumD xs) none (Ite K a) (fun m H => SqF H m a vs ∧ RDs K H m xs vs) where
  mono := fun x c h => ⟨h.1.mono x, h.2.mono c x⟩
  same := fun x h => ⟨x.sqf h.1, h.2.same x⟩
  go := fun {m st H i} _ _ h hi => ⟨vs, vs[i]'(by rw [← h.2.length]; simpa [enumD] using hi), .inl h.1.2, by simp⟩
  yld := fun {m st H i x H'} hS _ h hi y => by
    obtain ⟨t, x1, rfl, ht, rfl, hx⟩ := y
    obtain ⟨d, hd, r1⟩ := h.2.getV (hx vs (.inl h.1.2))
    have e := Ext.laid (o := .tup [.int (i : Nat), x1]) hS ht
    exact ⟨_, enum_at hd, e, hS.laid ht, .tup (SqT.of upd_same) (fun _ => upd_same) (fun k => by simp [pairy, pairHd] at k) (.cons (.int _) (.cons (r1.mono hS.cells e) .nil))⟩
  stop := fun {m st H} _ _ h => ⟨vs, .inl h.1.2, by simp [enumD, h.2.length]⟩
theorem walk_enumT {K : PySem.W.Frag} {a : Addr} {vs : List V} {xs : List D} : Walk K (enumD xs) none (IteT K a) (fun m H => SqT K H a vs ∧ RDs K H m xs vs) where
  mono := fun x c h => ⟨SqT.mono c x h.1, h.2.mono c x⟩
  same := fun x h => ⟨x.sqt h.1, h.2.same x⟩
  go := fun {m st H i} _ _ h hi => ⟨vs, vs[i]'(by rw [← h.2.length]; simpa [enumD] using hi), h.1, by simp⟩
  yld := fun {m st H i x H'} hS _ h hi y => by
    obtain ⟨t, x1, rfl, ht, rfl, hx⟩ := y
    obtain ⟨d, hd, r1⟩ := h.2.getV (hx vs h.1)
    have e := Ext.laid (o := .tup [.int (i : Nat), x1]) hS ht
    exact ⟨_, enum_at hd, e, hS.laid ht, .tup (SqT.of upd_same) (fun _ => upd_same) (fun k => by simp [pairy, pairHd] at k) (.cons (.int _) (.cons (r1.mono hS.cells e) .nil))⟩
  stop := fun {m st H} _ _ h => ⟨vs, h.1, by simp [enumD, h.2.length]⟩
theorem enumD_inj {xs ys : List D} (h : enumD xs = enumD ys) : xs = ys := by
  have hl : xs.length = ys.length := by simpa [enumD] using congrArg List.length h
  refine List.ext_getElem hl fun i h1 h2 => ?_
  have e := congrArg (fun l : List D => l[i]?) h
  simp only [enum_at (List.getElem?_eq_getElem h1), enum_at (List.getElem?_eq_getElem h2)] at e
  injection e with e
  injection e with e
  simp at e
  exact e
theorem walk_enumC {K : PySem.W.Frag} {a : Addr} {l : Nat} {xs : List D} : Walk K (enumD xs) (some (.inr l)) (Ite K a) (fun m _ => m.t[l]? = some a) where
  mono := fun x _ h => x.pre _ _ h
  same := fun x h => x.t _ _ h
  go := fun {m st H i} hS hs h hi => by
    obtain ⟨ys, e, hs⟩ := hs
    cases enumD_inj e
    obtain ⟨vs, h1, h2⟩ := hS.cell l a _ h hs
    exact ⟨vs, vs[i]'(by rw [← h2.length]; simpa [enumD] using hi), SqL.of h1, by simp⟩
  yld := fun {m st H i x H'} hS hs h hi y => by
    obtain ⟨ys, e, hs⟩ := hs
    cases enumD_inj e
    obtain ⟨t, x1, rfl, ht, rfl, hx⟩ := y
    obtain ⟨vs, h1, h2⟩ := hS.cell l a _ h hs
    obtain ⟨d, hd, r1⟩ := h2.getV (hx vs (SqL.of h1))
    have e := Ext.laid (o := .tup [.int (i : Nat), x1]) hS ht
    exact ⟨_, enum_at hd, e, hS.laid ht, .tup (SqT.of upd_same) (fun _ => upd_same) (fun k => by simp [pairy, pairHd] at k) (.cons (.int _) (.cons (r1.mono hS.cells e) .nil))⟩
  stop := fun {m st H} hS hs h => by
    obtain ⟨ys, e, hs⟩ := hs
    cases enumD_inj e
    obtain ⟨vs, h1, h2⟩ := hS.cell l a _ h hs
    exact ⟨vs, SqL.of h1, by simp [enumD, h2.length]⟩
section
variable {X : Cx} {cls : Nat → Value} {W : WX} {tg : Expr}
/-- zip of two lists, of two tuples is walked -/
theorem pi_zipD {x y : Expr} {p pos tpos : Pos} {elts : List Expr} {kk : Nat} {fa fb : Env → Store → R D} (hg : Gl X "zip") (hm : X.mg "zip" = none) (ha : PE X x (tE X.K cls W fa)) (hb : PE X y (tE X.K cls W fb)) (px : plainE x = true) (py : plainE y = true) :
    PI X (.Tuple elts kk tpos) (.Call (.Name "zip" p) [x, y] [] pos) (tW X.K cls W fun ρ st => (fa ρ st).bind fun d st => (fb ρ st).bind fun e st => match d, e with
      | .tup xs, .tup ys => if (zipD xs ys).any pairyT then .fault else .ok (zipD xs ys, none) st
      | .lst xs, .lst ys => if (zipD xs ys).any pairyT then .fault else .ok (zipD xs ys, none) st
      | _, _ => .fault) := by
  have npz : ∀ xs ys : List D, ¬ (zipD xs ys).any pairyT = true → ∀ ds, D.tup ds ∈ zipD xs ys → pairy ds = false := fun xs ys h ds hm => by
    cases e : pairy ds with
    | false => rfl
    | true => exact absurd (List.any_eq_true.mpr ⟨_, hm, e⟩) h
  refine PI.imp (RZ.pi_zipA hg hm (pa_cons ha (pa_cons hb pa_nil (star_plain py)) (star_plain px)) (star_plain px) (backTo_any (by simp [py]))) fun σ H R h => ?_
  obtain ⟨m, ρ, st, hE, hS, hP⟩ := h
  refine tG.of hE hS hP fun d st1 m1 v H1 _ _ hE1 hS1 r1 hP1 => ?_
  refine tG.of hE1 hS1 hP1 fun e st2 m2 w H2 _ x2 hE2 hS2 r2 hP2 => ?_
  have r1 := r1.mono hS1.cells x2
  split at hP2
  · obtain ⟨a, vs, rfl, ha, ra⟩ := rd_tup r1
    obtain ⟨b, ws, rfl, hb, rb⟩ := rd_tup r2
    split at hP2
    · exact False.elim hP2
    · next hz => exact ⟨a, b, vs, ws, rfl, .inr ⟨ha, hb, hP2.here hS2 ⟨_, ⟨⟨ha, ra⟩, hb, rb⟩, walk_zipT (npz _ _ hz)⟩⟩⟩
  · obtain ⟨a, vs, rfl, ha, ra⟩ := rd_lst r1
    obtain ⟨b, ws, rfl, hb, rb⟩ := rd_lst r2
    split at hP2
    · exact False.elim hP2
    · next hz => exact ⟨a, b, vs, ws, rfl, .inl ⟨.inl ha.2, .inl hb.2, hP2.here hS2 ⟨_, ⟨⟨ha, ra⟩, hb, rb⟩, walk_zipL (npz _ _ hz)⟩⟩⟩
  · exact False.elim hP2
theorem pi_enmD {x : Expr} {p pos tpos : Pos} {elts : List Expr} {kk : Nat} {fa : Env → Store → R D} (hg : Gl X "enumerate") (hm : X.mg "enumerate" = none) (ha : PE X x (tE X.K cls W fa)) (px : plainE x = true) :
    PI X (.Tuple elts kk tpos) (.Call (.Name "enumerate" p) [x] [] pos) (tW X.K cls W fun ρ st => (fa ρ st).bind fun d st => match d with
      | .lst xs => .ok (enumD xs, none) st
      | .tup xs => .ok (enumD xs, none) st
      | .loc l => (match st[l]? with
        | some (.lst xs) => .ok (enumD xs, some (.inr l)) st
        | _ => .fault)
      | _ => .fault) := by
  refine PI.imp (pi_enum2 hg hm (pa_cons ha pa_nil (star_plain px)) (star_plain px)) fun σ H R h => ?_
  obtain ⟨m, ρ, st, hE, hS, hP⟩ := h
  refine tG.of hE hS hP fun d st1 m1 v H1 _ _ hE1 hS1 r1 hP1 => ?_
  split at hP1
  · obtain ⟨a, vs, rfl, ha, ra⟩ := rd_lst r1
    exact ⟨a, vs, rfl, .inl ⟨.inl ha.2, hP1.here hS1 ⟨_, ⟨ha, ra⟩, walk_enumL⟩⟩⟩
  · obtain ⟨a, vs, rfl, ha, ra⟩ := rd_tup r1
    exact ⟨a, vs, rfl, .inr ⟨ha, hP1.here hS1 ⟨_, ⟨ha, ra⟩, walk_enumT⟩⟩⟩
  · split at hP1
    · next hc =>
      obtain ⟨a, rfl, ha⟩ := rd_loc r1
      obtain ⟨vs, h1, h2⟩ := hS1.cell _ a _ ha hc
      exact ⟨a, vs, rfl, .inl ⟨SqL.of h1, hP1.here hS1 ⟨_, ha, walk_enumC⟩⟩⟩
    · exact False.elim hP1
  · exact False.elim hP1
/-- a list, a tuple, a text is walked -/
theorem pi_seqD {l : Expr} {f : Env → Store → R D} (hl : PE X l (tE X.K cls W f)) : PI X tg l (tW X.K cls W fun ρ st => (f ρ st).bind fun d st => match walks st d with
    | some w => .ok w st
    | none => .fault) := by
  refine ⟨fun pins s σ H R I h => ?_⟩
  obtain ⟨m, ρ, st, hE, hS, hP⟩ := h
  refine thn (hl.run pins s σ H (fun v H1 => (∃ a vs, v = .ref a ∧ SqL X.K H1 a vs ∧ R (Itl X.K a) H1) ∨ (∃ a vs, v = .ref a ∧ SqT X.K H1 a vs ∧ R (Itt X.K a) H1) ∨ ∃ z, v = .str z ∧ R (Its z) H1) I
    (tG.of hE hS hP fun d st1 m1 v H1 _ _ hE1 hS1 r1 hP1 => ?_)) fun v s1 hv => ?_
  · cases e : walks st1 d with
    | none => rw [e] at hP1; exact False.elim hP1
    | some w =>
      rw [e] at hP1
      unfold walks at e
      split at e
      · cases e
        obtain ⟨a, vs, rfl, ha, ra⟩ := rd_lst r1
        exact .inl ⟨a, vs, rfl, .inl ha.2, hP1.here hS1 ⟨_, ⟨ha, ra⟩, walk_list⟩⟩
      · cases e
        obtain ⟨a, vs, rfl, ha, ra⟩ := rd_tup r1
        exact .inr (.inl ⟨a, vs, rfl, ha, hP1.here hS1 ⟨_, ⟨ha, ra⟩, walk_tup⟩⟩)
      · cases e
        cases r1
        exact .inr (.inr ⟨_, rfl, hP1.here hS1 ⟨_, trivial, walk_str⟩⟩)
      · split at e
        · next l' hc =>
          cases e
          obtain ⟨a, rfl, ha⟩ := rd_loc r1
          obtain ⟨vs, h1, h2⟩ := hS1.cell _ a _ ha hc
          exact .inl ⟨a, vs, rfl, SqL.of h1, hP1.here hS1 ⟨_, ha, walk_cell⟩⟩
        · cases e
      · cases e
  · obtain ⟨x, H1, I1, r1, ⟨a, vs, rfl, hq, q⟩ | ⟨a, vs, rfl, hq, q⟩ | ⟨z, rfl, q⟩⟩ := hv
    · cases r1
      obtain ⟨its, rv, p, hz⟩ := I1.list hq
      refine wpAny_pyIter_list p.isList ?_
      refine ⟨s1.heap.objs.size, [s1.heap.objs.size], _, _, H1, rfl, I1.kept (t' := s1.toks) fun b o e => Heap.get?_push_of_some _ e, turn_list a _, ⟨_, Heap.get?_push_size _ rfl, rfl, rfl⟩, fun b hb => ?_, q⟩
      have e : b = s1.heap.objs.size := by simpa using hb
      subst e
      exact I1.fpOk (Nat.le_refl _) (I1.hok.fresh (Nat.le_refl _))
    · cases r1
      obtain ⟨its, rv, p, hz⟩ := I1.tuple hq
      refine wpAny_pyIter_tuple (show s1.heap.IsTuple a its.toArray from p) ?_
      refine ⟨s1.heap.objs.size, [s1.heap.objs.size], _, _, H1, rfl, I1.kept (t' := s1.toks) fun b o e => Heap.get?_push_of_some _ e, turn_tuple a _, ⟨_, Heap.get?_push_size _ rfl, rfl, rfl⟩, fun b hb => ?_, q⟩
      have e : b = s1.heap.objs.size := by simpa using hb
      subst e
      exact I1.fpOk (Nat.le_refl _) (I1.hok.fresh (Nat.le_refl _))
    · obtain ⟨t, rfl⟩ := r1
      cases ha : z.cps.all (· < 128)
      · exact wpAny_pyIter_wide ha (pi_one (tk := s1.toks) I1 _ (turn_str _ z t "str_iterator" (.inr rfl)) ⟨_, Heap.get?_push_size _ rfl, rfl, rfl⟩ q)
      · exact wpAny_pyIter_ascii ha (pi_one (tk := s1.toks) I1 _ (turn_str _ z t "str_ascii_iterator" (.inl rfl)) ⟨_, Heap.get?_push_size _ rfl, rfl, rfl⟩ q)
/-- a range is walked -/
theorem pi_rngD {as : List Expr} {p pos : Pos} {f : Env → Store → R (List D)} (hl : ∀ ρ st ds st', f ρ st = .ok ds st' → ds.length = as.length) (h0 : as ≠ []) (hn : as.length ≤ 3) (hpl : as.all plainE = true) (hg : Gl X "range") (hm : X.mg "range" = none) (ha : PA X as (tL X.K cls W f)) :
    PI X tg (.Call (.Name "range" p) as [] pos) (tW X.K cls W fun ρ st => (f ρ st).bind fun ds st => match rangeD ds with
      | some xs => .ok (xs, none) st
      | none => .fault) := by
  have key : ∀ {σ H} {R : It → Hp → Prop} {ds : List D} {st m}, SimS X.K H m st → Post X.K cls (relW X.K) W m H σ R (match rangeD ds with
      | some xs => .ok (xs, none) st
      | none => .fault) → (∃ j, ds = [.int j] ∧ inRange j = true ∧ R (Itr 0 j.toNat) H) ∨ (∃ i j, ds = [.int i, .int j] ∧ inRange i = true ∧ inRange j = true ∧ R (Itr i (j - i).toNat) H) ∨ ∃ (i j c : Int) (n : Nat), ds = [.int i, .int j, .int c] ∧ RgC i j c n ∧ R (Itc i c n) H := by
    intro σ H R ds st m hS hP
    unfold rangeD at hP
    split at hP
    · next xs e =>
      split at e
      · next j =>
        split at e
        · next hr => cases e; exact .inl ⟨j, rfl, hr, hP.here hS ⟨_, trivial, walk_range⟩⟩
        · cases e
      · next i j =>
        split at e
        · next hr =>
          simp only [Bool.and_eq_true] at hr
          cases e; exact .inr (.inl ⟨i, j, rfl, hr.1, hr.2, hP.here hS ⟨_, trivial, walk_range⟩⟩)
        · cases e
      · next i j c =>
        split at e
        · next hr =>
          obtain ⟨c1, c2, c3, c4⟩ := hr
          cases e; exact .inr (.inr ⟨i, j, c, _, rfl, ⟨c1, c2, c3, (Int.toNat_of_nonneg c4).symm⟩, hP.here hS ⟨_, trivial, walk_rangeC⟩⟩)
        · cases e
      · cases e
    · exact False.elim hP
  have rb : ∀ {j : Int}, inRange j = true → -(2 ^ 62) ≤ j ∧ j < 2 ^ 62 := fun h => by simpa [inRange] using h
  revert hl h0 hn hpl ha
  intro hl h0 hn hpl ha
  match as, hn, hpl, ha with
  | [], _, _, ha => exact absurd rfl h0
  | [a], _, hpl, ha =>
    simp only [List.all_cons, Bool.and_eq_true] at hpl
    refine PI.imp (pi_range1 hg hm ha (star_plain hpl.1)) fun σ H R h => ?_
    obtain ⟨m, ρ, st, hE, hS, hP⟩ := h
    refine tG.of hE hS hP fun ds st1 m1 vs H1 ee _ hE1 hS1 r1 hP1 => ?_
    have hlen := hl _ _ _ _ ee
    rcases key hS1 hP1 with ⟨j, rfl, hr, q⟩ | ⟨i, j, rfl, h1, h2, q⟩ | ⟨i, j, c, n, rfl, h1, q⟩
    · obtain ⟨v, rfl, rv⟩ := rds1 r1
      cases rv
      exact ⟨j, rfl, (rb hr).1, (rb hr).2, q⟩
    · simp at hlen
    · simp at hlen
  | [a, b], _, hpl, ha =>
    simp only [List.all_cons, Bool.and_eq_true] at hpl
    refine PI.imp (pi_range2 hg hm ha (by rw [star_plain hpl.1, star_plain hpl.2.1]; rfl) (by rw [star_plain hpl.2.1]; rfl)) fun σ H R h => ?_
    obtain ⟨m, ρ, st, hE, hS, hP⟩ := h
    refine tG.of hE hS hP fun ds st1 m1 vs H1 ee _ hE1 hS1 r1 hP1 => ?_
    have hlen := hl _ _ _ _ ee
    rcases key hS1 hP1 with ⟨j, rfl, hr, q⟩ | ⟨i, j, rfl, h1, h2, q⟩ | ⟨i, j, c, n, rfl, h1, q⟩
    · simp at hlen
    · obtain ⟨v, w, rfl, rv, rw'⟩ := rds2 r1
      cases rv; cases rw'
      exact ⟨i, j, rfl, ⟨(rb h1).1, (rb h1).2, (rb h2).1, (rb h2).2⟩, q⟩
    · simp at hlen
  | [a, b, d], _, hpl, ha =>
    simp only [List.all_cons, Bool.and_eq_true] at hpl
    refine PI.imp (pi_range3 hg hm ha (star_plain hpl.1) (by rw [star_plain hpl.2.1, star_plain hpl.2.2.1]; rfl)) fun σ H R h => ?_
    obtain ⟨m, ρ, st, hE, hS, hP⟩ := h
    refine tG.of hE hS hP fun ds st1 m1 vs H1 ee _ hE1 hS1 r1 hP1 => ?_
    have hlen := hl _ _ _ _ ee
    rcases key hS1 hP1 with ⟨j, rfl, hr, q⟩ | ⟨i, j, rfl, h1, h2, q⟩ | ⟨i, j, c, n, rfl, h1, q⟩
    · simp at hlen
    · simp at hlen
    · cases r1 with
      | cons ra rb' =>
        obtain ⟨v, w, rfl, rv, rw'⟩ := rds2 rb'
        cases ra; cases rv; cases rw'
        exact ⟨i, j, c, n, rfl, h1, q⟩
end
end Mi
/-! MiH: targets; a list comprehension. -/
namespace Mi
open PySem PySem.Spec L2

/-! ### targets -/
def putσ (σ : L2.St) : List Nat → List V → L2.St
  | i :: is, v :: vs => putσ (σ.set i (some v)) is vs
  | _, _ => σ
theorem SimE.put {K : PySem.W.Frag} {H : Hp} {m : Pl} : ∀ {tg : List Nat} {ds : List D} {vs : List V} {ρ ρ' : Env} {σ : L2.St}, SimE K H m ρ σ → RDs K H m ds vs → put ρ tg ds = some ρ' → SimE K H m ρ' (putσ σ tg vs)
  | [], [], _, ρ, ρ', σ, e, r, h => by cases r; cases h; exact e
  | i :: is, d :: ds, _, ρ, ρ', σ, e, r, h => by
    cases r with
    | @cons _ v _ vs r1 r2 =>
      refine SimE.put (tg := is) (ρ := ρ.set i (some d)) ⟨by simp [e.len], fun j b hj => ?_⟩ r2 (show Mi.put (ρ.set i (some d)) is ds = some ρ' from h)
      by_cases hij : i = j
      · subst hij
        by_cases hl : i < ρ.length
        · rw [List.getElem?_set_self hl] at hj
          cases hj
          exact ⟨v, by rw [List.getElem?_set_self (by rw [← e.len]; exact hl)], r1⟩
        · rw [List.getElem?_eq_none (by simpa using hl)] at hj; cases hj
      · rw [List.getElem?_set_ne hij] at hj
        obtain ⟨w, h1, h2⟩ := e.get j b hj
        exact ⟨w, by rw [List.getElem?_set_ne hij]; exact h1, h2⟩
  | [], _ :: _, _, _, _, _, _, _, h => by cases h
  | _ :: _, [], _, _, _, _, _, _, h => by cases h
theorem wipe_set {σ : L2.St} {i : Nat} {o : Option V} : ∀ {vs : List Nat}, i ∈ vs → L2.wipe (σ.set i o) vs = L2.wipe σ vs
  | [], h => by simp at h
  | v :: vs, h => by
    unfold L2.wipe
    by_cases hm : i ∈ vs
    · rw [wipe_set hm]
    · have hv : i = v := by simp at h; rcases h with h | h; exact h; exact absurd h hm
      subst hv
      have key : ∀ {us : List Nat}, i ∉ us → L2.wipe (σ.set i o) us = (L2.wipe σ us).set i o := by
        intro us
        induction us with
        | nil => intro _; rfl
        | cons u us ih =>
          intro hu
          simp only [List.mem_cons, not_or] at hu
          unfold L2.wipe
          rw [ih hu.2, List.set_comm _ _ hu.1]
      rw [key hm, List.set_set]
theorem wipe_sub {σ : L2.St} : ∀ {us vs : List Nat}, (∀ i ∈ us, i ∈ vs) → L2.wipe (L2.wipe σ us) vs = L2.wipe σ vs
  | [], _, _ => rfl
  | u :: us, vs, h => by
    show L2.wipe ((L2.wipe σ us).set u none) vs = _
    rw [wipe_set (h u List.mem_cons_self), wipe_sub fun i hi => h i (List.mem_cons_of_mem _ hi)]
theorem wipe_put {σ : L2.St} : ∀ {tg : List Nat} {vs : List V} {own : List Nat}, (∀ i ∈ tg, i ∈ own) → ∀ {σ : L2.St}, L2.wipe (putσ σ tg vs) own = L2.wipe σ own
  | [], _, _, _, _ => by unfold putσ; rfl
  | i :: is, [], _, _, _ => by unfold putσ; rfl
  | i :: is, v :: vs, own, h, σ => by
    unfold putσ
    rw [wipe_put (σ := σ) (fun j hj => h j (List.mem_cons_of_mem _ hj)), wipe_set (h i List.mem_cons_self)]
theorem SimE.wipe {K : PySem.W.Frag} {H : Hp} {m : Pl} {ρ : Env} {σ : L2.St} (e : SimE K H m ρ σ) : ∀ vs : List Nat, SimE K H m (Mi.wipe ρ vs) (L2.wipe σ vs)
  | [] => e
  | v :: vs => by
    have ih := e.wipe vs
    unfold Mi.wipe L2.wipe
    refine ⟨by simp [ih.len], fun j b hj => ?_⟩
    by_cases hij : v = j
    · subst hij
      by_cases hl : v < (Mi.wipe ρ vs).length
      · rw [List.getElem?_set_self hl] at hj; cases hj
      · rw [List.getElem?_eq_none (by simpa using hl)] at hj; cases hj
    · rw [List.getElem?_set_ne hij] at hj
      obtain ⟨w, h1, h2⟩ := ih.get j b hj
      exact ⟨w, by rw [List.getElem?_set_ne hij]; exact h1, h2⟩
def gD (K : PySem.W.Frag) (tg : List Nat) (one : Bool) : TG := fun v σ H Q => ∃ m ρ st d, SimE K H m ρ σ ∧ SimS K H m st ∧ RD K H m d v ∧ ∃ ρ', bindT tg one st d ρ = some ρ' ∧ ∀ vs, SimE K H m ρ' (putσ σ tg vs) → Q (putσ σ tg vs) H
section
variable {X : Cx} {N : List Str} {ck : Str → Bool}
def gNames : List Nat → TGs
  | [] => gNil
  | i :: is => gCons (gName i) (gNames is)
theorem gNames_of {H : Hp} {Q : L2.St → Hp → Prop} : ∀ {tg : List Nat} {vs : List V} {σ : L2.St}, tg.length = vs.length → Q (putσ σ tg vs) H → gNames tg vs σ H Q
  | [], [], _, _, q => ⟨rfl, q⟩
  | i :: is, v :: vs, σ, hl, q => ⟨v, vs, rfl, gNames_of (by simpa using hl) q⟩
  | [], _ :: _, _, hl, _ => by simp at hl
  | _ :: _, [], _, hl, _ => by simp at hl
theorem pgs_names (hN : X.N.Nodup) (hX : X.N = N) (hf : ∀ x, ck x = true → X.fn x = true) : ∀ {tg : List Nat} {es : List Expr}, chkNames ck N X.env.scope tg es = true → PGs X es (gNames tg) ∧ (assignEach es X.env).length = tg.length ∧ (assignEach es X.env).findIdx? (·.1) = none
  | [], [], _ => ⟨pgs_nil, rfl, rfl⟩
  | i :: is, .Name x p :: es, h => by
    simp only [chkNames, Bool.and_eq_true, Bool.or_eq_true, isName, decide_eq_true_eq] at h
    obtain ⟨⟨h1, h2⟩, h3⟩ := h
    obtain ⟨g1, g2, g3⟩ := pgs_names hN hX hf h3
    have hi : X.N[i]? = some x := by rw [hX]; exact h1
    refine ⟨pgs_cons ?_ g1, ?_, ?_⟩
    · rcases h2 with h2 | ⟨h2, h4⟩
      · exact pg_name hN hi (.inl (locB_loc h2)) (.inr (locB_loc h2))
      · exact pg_name hN hi (.inr (cellB_cell h2)) (.inl (hf x h4))
    · show (assignEach es X.env).length + 1 = _
      rw [g2]; rfl
    · show ((false, assign (.Name x p) X.env) :: assignEach es X.env).findIdx? (·.1) = none
      rw [List.findIdx?_cons, g3]; rfl
  | [], _ :: _, h => by cases h
  | _ :: _, [], h => by cases h
theorem bindT_put {K : PySem.W.Frag} {H : Hp} {m : Pl} {st : Store} {tg : List Nat} {d : D} {v : V} {ρ ρ' : Env} (hS : SimS K H m st) (r : RD K H m d v) (h : bindT tg false st d ρ = some ρ') :
    ∃ a ds vs, v = .ref a ∧ (SqT K H a vs ∨ SqL K H a vs) ∧ RDs K H m ds vs ∧ put ρ tg ds = some ρ' := by
  simp only [bindT, Bool.false_eq_true, if_false] at h
  split at h
  · next xs e =>
    cases look_tup e
    obtain ⟨a, vs, rfl, ha, ra⟩ := rd_tup r
    exact ⟨a, xs, vs, rfl, .inl ha, ra, h⟩
  · next xs e =>
    obtain ⟨a, vs, rfl, ha, ra⟩ := RD.sq hS r e
    exact ⟨a, xs, vs, rfl, .inr ha, ra, h⟩
  · cases h
theorem put_len : ∀ {tg : List Nat} {ds : List D} {ρ ρ' : Env}, put ρ tg ds = some ρ' → tg.length = ds.length
  | [], [], _, _, _ => rfl
  | i :: is, d :: ds, ρ, ρ', h => by simp [put_len (tg := is) (ds := ds) h]
  | [], _ :: _, _, _, h => by cases h
  | _ :: _, [], _, _, h => by cases h
theorem pg_D {tg : List Nat} {one : Bool} {t : Expr} (hc : X.calm = true) (hN : X.N.Nodup) (hX : X.N = N) (hf : ∀ x, ck x = true → X.fn x = true) (h : chkTg ck N X.env.scope tg one t = true) : PG X t (gD X.K tg one) := by
  refine ⟨fun pins s σ H v u Q I r hw => ?_⟩
  obtain ⟨m, ρ, st, d, hE, hS, rd, ρ', hb, hq⟩ := hw
  unfold chkTg at h
  split at h
  · next x p =>
    simp only [Bool.and_eq_true] at h
    obtain ⟨rfl, h⟩ := h
    simp only [bindT, if_true] at hb
    obtain ⟨g1, g2, g3⟩ := pgs_names hN hX hf h
    have e2 := hE.put (.cons rd .nil) hb
    match tg, h with
    | [i], h =>
      simp only [chkNames, Bool.and_eq_true, Bool.or_eq_true, isName, decide_eq_true_eq] at h
      obtain ⟨⟨h1, h2⟩, _⟩ := h
      have hi : X.N[i]? = some x := by rw [hX]; exact h1
      have pg : PG X (.Name x p) (gName i) := by
        rcases h2 with h2 | ⟨h2, h4⟩
        · exact pg_name hN hi (.inl (locB_loc h2)) (.inr (locB_loc h2))
        · exact pg_name hN hi (.inr (cellB_cell h2)) (.inl (hf x h4))
      exact pg.run pins s σ H v u Q I r (hq [v] e2)
    | [], h => cases h
    | i :: j :: is, h => simp [chkNames] at h
  · next es k p =>
    simp only [Bool.and_eq_true, Bool.not_eq_true'] at h
    obtain ⟨rfl, h⟩ := h
    obtain ⟨g1, g2, g3⟩ := pgs_names hN hX hf h
    obtain ⟨a, ds, vs, rfl, ha, ra, hp⟩ := bindT_put hS rd hb
    have hl : tg.length = vs.length := by rw [put_len hp, ra.length]
    have q := gNames_of (H := H) (Q := Q) (tg := tg) (vs := vs) (σ := σ) hl (hq vs (hE.put ra hp))
    rcases ha with ha | ha
    · exact (pg_tup hc g1 g2 g3).run pins s σ H _ u Q I r ⟨a, vs, rfl, ha, hl.symm, q⟩
    · exact (pg_lst hc g1 g2 g3).run pins s σ H _ u Q I r ⟨a, vs, rfl, ha, hl.symm, q⟩
  · cases h
end

/-! ### results that let nothing out -/
theorem R.bind_assoc {α β γ : Type} (r : R α) (f : α → Store → R β) (g : β → Store → R γ) : (r.bind f).bind g = r.bind fun a s => (f a s).bind g := by
  cases r <;> rfl
section
variable {K : PySem.W.Frag} {cls : Nat → Value} {H : Hp} {m : Pl} {st : Store} {ρ : Env} {σ σ2 : L2.St} {W W' : WX}
theorem tG.calm {α β γ δ : Type} {rel : Hp → Pl → α → β → Prop} {rel2 : Hp → Pl → γ → δ → Prop} {f : Env → Store → R α} {k : α → Store → R γ} {Q : δ → Hp → Prop} {Qa : β → Hp → Prop} {m0 : Pl} {H0 : Hp}
    (hE : SimE K H m ρ σ2) (hS : SimS K H m st) (hP : Post K cls rel2 W m0 H0 σ Q ((f ρ st).calm.bind k))
    (hk : ∀ d st1 m1 v H1, f ρ st = .ok d st1 → Ext H H1 m m1 → SimE K H1 m1 ρ σ2 → SimS K H1 m1 st1 → rel H1 m1 d v → Post K cls rel2 W m0 H0 σ Q (k d st1) → Qa v H1) : tG K cls rel W' f σ2 H Qa := by
  refine ⟨m, ρ, st, hE, hS, ?_⟩
  cases e : f ρ st with
  | ok d s =>
    rw [e] at hP
    exact fun m' v H' x s' r => hk d s m' v H' e x (hE.mono hS.cells x) s' r hP
  | exc c s => rw [e] at hP; exact False.elim hP
  | fault => rw [e] at hP; exact False.elim hP
theorem loopC_noexc {ck : Store → Prop} {f : D → Store → R (Option D)} (hf : ∀ x st c s, f x st ≠ .exc c s) : ∀ (xs : List D) (st : Store) (c : Nat) (s : Store), loopC ck f xs st ≠ .exc c s
  | [], st, c, s => by unfold loopC; split <;> (intro h; cases h)
  | x :: xs, st, c, s => by
    unfold loopC
    split
    · cases e : f x st with
      | ok o st1 =>
        simp only [R.bind_ok]
        cases e2 : loopC ck f xs st1 with
        | ok ys s2 => intro h; cases h
        | exc c' s' => exact absurd e2 (loopC_noexc hf xs st1 c' s')
        | fault => intro h; cases h
      | exc c' s' => exact absurd e (hf x st c' s')
      | fault => intro h; cases h
    · intro h; cases h
theorem made_len {fz : Bool} {ds : List D} {Q : VK} (p : Post K cls (relD K) W m H σ Q (made fz ds st)) : ds.length ≤ sizeLine := by
  unfold made at p
  split at p
  · assumption
  · exact False.elim p
/-- a private list that grew, as a new one -/
theorem Post.grown {fz : Bool} {Q : VK} {ds : List D} {vs : List V} {m1 : Pl} {H1 : Hp} {a : Addr} (p : Post K cls (relD K) W m H σ Q (Mi.made fz ds st)) (x : Ext H H1 m m1) (hS : SimS K H1 (m1.hide a) st) (ha : H1 a = some (.lst vs)) (h0 : H a = none) (nx : a ∉ m1.x) (r : RDs K H1 (m1.hide a) ds vs) : Q (.ref a) H1 := by
  have hz := made_len p
  have na : a ∉ m1.t := (hS.pv a List.mem_cons_self).1
  unfold Mi.made at p
  rw [if_pos hz] at p
  cases fz with
  | true => exact p m1 _ H1 x hS.shown (.lst ⟨⟨na, nx⟩, .inl ha⟩ (r.same same_show))
  | false =>
    refine p (m1.push a) _ H1 ⟨fun l b h => ?_, fun b h h' => ?_, x.keep, x.pv⟩ (hS.celled nx ha r) (.loc ?_)
    · have := x.pre l b h
      show (m1.t ++ [a])[l]? = some b
      rw [List.getElem?_append_left (List.getElem?_eq_some_iff.mp this).1]; exact this
    · rcases List.mem_append.mp (show b ∈ m1.t ++ [a] from h) with h | h
      · exact x.new b h h'
      · simp at h; subst h; exact h0
    · show (m1.t ++ [a])[st.length]? = some a
      rw [← show m1.t.length = st.length from hS.len]; simp
end
section
variable {X : Cx} {cls : Nat → Value} {W : WX}
/-- [elt for tg in it if c] -/
theorem tLc_D {fz : Bool} {fi : Env → Store → R (List D × Option Src)} {fc : Env → Store → R Bool} {fe : Env → Store → R D} {own tg : List Nat} {one : Bool} (ht : ∀ i ∈ tg, i ∈ own) {σ : L2.St} {H : Hp} {Q : VK}
    (h : tE X.K cls W (fun ρ st => (fi ρ st).bind fun w st => (loopC (fun s => stands s w.1 w.2) (fun x s => match bindT tg one s x (wipe ρ own) with
      | some ρ1 => (fc ρ1 s).calm.bind fun k s => if k then (fe ρ1 s).calm.bind fun d s => .ok (some d) s else .ok none s
      | none => .fault) w.1 st).bind fun ds st => Mi.made fz ds st) σ H Q) :
    tLc (tW X.K cls W fi) (gD X.K tg one) (tT X.K cls (fun _ _ _ _ => False) fc) (tE X.K cls (fun _ _ _ _ => False) fe) own σ H Q := by
  obtain ⟨m, ρ, st, hE, hS, hP⟩ := h
  refine tG.of hE hS hP fun w st1 m1 J H1 _ _ hE1 hS1 r1 hP1 => ?_
  obtain ⟨xs, src⟩ := w
  obtain ⟨L, hL, hW⟩ := r1
  intro Da hD
  simp only at hW hP1
  have nx0 : Da ∉ m1.x := (hS1.notin' hD).2
  generalize hf : (fun (x : D) (s : Store) => (match bindT tg one s x (Mi.wipe ρ own) with
      | some ρ1 => (fc ρ1 s).calm.bind fun k s => if k then (fe ρ1 s).calm.bind fun d s => .ok (some d) s else .ok none s
      | none => .fault : R (Option D))) = f at hP1
  have noexc : ∀ x st c s, f x st ≠ .exc c s := by
    intro x s c s'
    subst hf
    simp only
    cases bindT tg one s x (Mi.wipe ρ own) with
    | none => intro h; cases h
    | some ρ1 =>
      simp only
      cases fc ρ1 s with
      | ok k s2 =>
        simp only [R.calm_ok, R.bind_ok]
        cases k with
        | true =>
          simp only [if_true]
          cases fe ρ1 s2 with
          | ok d s3 => intro h; cases h
          | exc _ _ => intro h; cases h
          | fault => intro h; cases h
        | false => intro h; cases h
      | exc _ _ => intro h; cases h
      | fault => intro h; cases h
  -- what holds between two turns
  let Inv0 : Nat → Hp → Prop := fun i Hc => i ≤ xs.length ∧ ∃ m2 st2 acc vs, Ext H1 Hc m1 m2 ∧ SimE X.K Hc (m2.hide Da) ρ σ ∧ SimS X.K Hc (m2.hide Da) st2 ∧ L (m2.hide Da) Hc ∧ Hc Da = some (.lst vs) ∧ RDs X.K Hc (m2.hide Da) acc vs ∧
    Post X.K cls (relD X.K) W m1 H1 σ Q ((loopC (fun s => stands s xs src) f (xs.drop i) st2).bind fun ys st => Mi.made fz (acc ++ ys) st)
  refine ⟨fun i k Hc => k = xs.length - i ∧ Inv0 i Hc, ⟨xs.length, by simp, Nat.zero_le _, m1, st1, [], [], ?_⟩, ?_⟩
  · refine ⟨Ext.laid hS1 hD, hE1.same (same_hide hS1 hD), hS1.hide hD, hW.same (same_hide hS1 hD) hL, upd_same, .nil, ?_⟩
    simpa using hP1
  · rintro i k Hc ⟨rfl, hi, m2, st2, acc, vs, x2, hE2, hS2, hL2, hD2, ra, hP2⟩
    have nx2 : Da ∉ m2.x := by rw [x2.pv]; exact nx0
    have na2 : Da ∉ m2.t := (hS2.pv Da List.mem_cons_self).1
    by_cases hlt : i < xs.length
    · refine .inr ?_
      have ed : xs.drop i = xs[i] :: xs.drop (i + 1) := List.drop_eq_getElem_cons hlt
      rw [ed] at hP2
      unfold loopC at hP2
      by_cases hck : stands st2 xs src
      · rw [if_pos hck] at hP2
        refine ⟨hW.go hS2 hck hL2 hlt, Inv0 (i + 1), fun Hn q => ⟨xs.length - (i + 1), by omega, rfl, q⟩, fun x H3 hy => ?_⟩
        obtain ⟨d, hd, x3, hS3, rd⟩ := hW.yld hS2 hck hL2 hlt hy
        have hdx : xs[i] = d := by rw [List.getElem?_eq_getElem hlt] at hd; exact Option.some.inj hd
        rw [hdx] at hP2
        have hE3 := hE2.mono hS2.cells x3
        have ra3 := ra.mono hS2.cells x3
        have hL3 := hW.mono x3 hS2.cells hL2
        have hD3 : H3 Da = some (.lst vs) := x3.keep _ _ hD2 na2
        obtain ⟨m3, e3, x3'⟩ := x3.unhide
        have e3 : m3 = m2 := by
          obtain ⟨t, y⟩ := m3
          obtain ⟨t', y'⟩ := m2
          simp only [Pl.hide, Pl.mk.injEq, List.cons.injEq, true_and] at e3
          simp [e3]
        subst e3
        have fe0 : f d st2 = (match bindT tg one st2 d (Mi.wipe ρ own) with
          | some ρ1 => (fc ρ1 st2).calm.bind fun k s => if k then (fe ρ1 s).calm.bind fun d s => .ok (some d) s else .ok none s
          | none => .fault : R (Option D)) := by rw [← hf]
        cases eb : bindT tg one st2 d (Mi.wipe ρ own) with
        | none =>
          rw [eb] at fe0
          rw [fe0] at hP2
          exact False.elim hP2
        | some ρ1 =>
          rw [eb] at fe0
          simp only at fe0
          rw [fe0] at hP2
          refine ⟨m3.hide Da, _, st2, d, hE3.wipe own, hS3, rd, ρ1, eb, fun ws hE4 => ⟨by rw [wipe_put (σ := σ) ht, wipe_sub fun _ h => h], ?_⟩⟩
          rw [R.bind_assoc, R.bind_assoc] at hP2
          refine tG.calm (W := W) hE4 hS3 hP2 fun b st4 m4 b' H4 _ x4 hE5 hS4 rb hP4 => ?_
          have rb : b = b' := rb
          subst rb
          obtain ⟨m4', rfl, x4'⟩ := x4.unhide
          have hD4 : H4 Da = some (.lst vs) := x4.keep _ _ hD3 na2
          cases b with
          | true =>
            simp only [if_true] at hP4 ⊢
            rw [R.bind_assoc] at hP4
            refine tG.calm (W := W) hE5 hS4 hP4 fun y st5 m5 yv H5 _ x5 hE6 hS5 ry hP5 => ?_
            simp only [R.bind_ok] at hP5
            obtain ⟨m5', rfl, x5'⟩ := x5.unhide
            have na4 : Da ∉ m4'.t := (hS4.pv Da List.mem_cons_self).1
            have hD5 : H5 Da = some (.lst vs) := x5.keep _ _ hD4 na4
            have x15 : Ext H1 H5 m1 m5' := x2.trans (x3'.trans (x4'.trans x5'))
            cases er : loopC (fun s => stands s xs src) f (xs.drop (i + 1)) st5 with
            | ok ys s6 =>
              rw [er] at hP5
              simp only [R.bind_ok] at hP5
              have hz := made_len hP5
              have hlen : vs.length = acc.length := ra.length.symm
              refine ⟨vs, hD5, by simp at hz; omega, hlt, m5', st5, acc ++ [y], vs ++ [yv], ?_, (hE3.mono hS3.cells (x4.trans x5)).same (same_priv hS5), hS5.priv, hW.same (same_priv hS5) (hW.mono (x4.trans x5) hS3.cells hL3), upd_same, ?_, ?_⟩
              · exact ⟨x15.pre, x15.new, fun b o h n => by
                  rw [upd_ne (fun e : b = Da => by subst e; rw [hD] at h; cases h)]; exact x15.keep b o h n, x15.pv⟩
              · exact ((ra3.mono hS3.cells (x4.trans x5)).append (.cons ry .nil)).same (same_priv hS5)
              · rw [er]
                simp only [R.bind_ok, List.append_assoc]
                exact hP5
            | exc c s => exact absurd er (loopC_noexc noexc _ _ _ _)
            | fault => rw [er] at hP5; exact False.elim hP5
          | false =>
            simp only [Bool.false_eq_true, if_false, R.bind_ok] at hP4 ⊢
            try rw [R.bind_assoc] at hP4
            refine ⟨hlt, m4', st4, acc, vs, x2.trans (x3'.trans x4'), hE3.mono hS3.cells x4, hS4, hW.mono x4 hS3.cells hL3, hD4, ra3.mono hS3.cells x4, ?_⟩
            cases er : loopC (fun s => stands s xs src) f (xs.drop (i + 1)) st4 with
            | ok ys s6 => rw [er] at hP4; exact hP4
            | exc c s => exact absurd er (loopC_noexc noexc _ _ _ _)
            | fault => rw [er] at hP4; exact False.elim hP4
      · rw [if_neg hck] at hP2; exact False.elim hP2
    · refine .inl ?_
      have e : i = xs.length := by omega
      subst e
      rw [List.drop_length] at hP2
      unfold loopC at hP2
      by_cases hck : stands st2 xs src
      · rw [if_pos hck] at hP2
        simp only [R.bind_ok, List.append_nil] at hP2
        exact ⟨hW.stop hS2 hck hL2, hP2.grown x2 hS2 hD2 hD nx2 ra⟩
      · rw [if_neg hck] at hP2; exact False.elim hP2
end
end Mi
/-! MiYT: set(xs) of a list of tuples of numbers; its members in order, their number. -/
namespace Mi
open PySem PySem.Spec L2 PyProof.Rows
theorem toPys_ints : ∀ ns : List Int, toPys (ns.map D.int) = ns.map PyData.int
  | [] => rfl
  | n :: ns => by rw [List.map_cons, toPys, toPys_ints ns]; rfl
theorem toPy_tI (ns : List Int) : toPy (tI ns) = .tuple (ns.map .int) := by unfold tI toPy; rw [toPys_ints]
theorem le_tI : PySem.W.dataLe false (fun ns : List Int => toPy (tI ns)) = fun a b => decide (a ≤ b) := by
  funext a b
  show (!PySem.W.dataLt (toPy (tI b)) (toPy (tI a))) = _
  rw [toPy_tI, toPy_tI, PySem.W.dataLt_tuple]
  show (!PySem.W.rowLt (b.map .int) (a.map .int)) = _
  rw [PySem.W.dataLt_ints]
  by_cases h : b < a
  · have h' : ¬ a ≤ b := fun r => List.not_lt.mpr r h
    simp [h, h']
  · have h' : a ≤ b := List.not_lt.mp h
    simp [h, h']
theorem sortD_tI (zs : List (List Int)) : sortD (zs.map tI) = (zs.mergeSort fun a b => decide (a ≤ b)).map tI := by
  unfold sortD
  rw [← le_tI]
  exact (List.map_mergeSort (f := tI) (r := PySem.W.dataLe false fun z : List Int => toPy (tI z)) (s := PySem.W.dataLe false toPy) (l := zs) (fun _ _ _ _ => rfl)).symm
theorem leI_tr (a b c : List Int) (h1 : decide (a ≤ b) = true) (h2 : decide (b ≤ c) = true) : decide (a ≤ c) = true := decide_eq_true (List.le_trans (of_decide_eq_true h1) (of_decide_eq_true h2))
theorem leI_tot (a b : List Int) : (decide (a ≤ b) || decide (b ≤ a)) = true := by
  rcases List.le_total a b with h | h <;> simp [h]
theorem sort_permI {xs ys : List (List Int)} (h : xs.Perm ys) : sortD (xs.map tI) = sortD (ys.map tI) := by
  rw [sortD_tI, sortD_tI]
  congr 1
  refine List.Perm.eq_of_pairwise (le := fun a b : List Int => decide (a ≤ b) = true) (fun a b _ _ h1 h2 => ?_) (List.pairwise_mergeSort leI_tr leI_tot _) (List.pairwise_mergeSort leI_tr leI_tot _) (((List.mergeSort_perm _ _).trans h).trans (List.mergeSort_perm _ _).symm)
  exact List.le_antisymm (of_decide_eq_true h1) (of_decide_eq_true h2)
theorem onceI_mem {z : List Int} : ∀ {zs : List (List Int)}, z ∈ onceI zs ↔ z ∈ zs
  | [] => Iff.rfl
  | x :: zs => by
    have ih := onceI_mem (z := z) (zs := zs)
    show z ∈ (if x ∈ onceI zs then onceI zs else x :: onceI zs) ↔ _
    split
    · next h => rw [ih, List.mem_cons]; exact ⟨.inr, fun q => q.elim (fun e => by subst e; exact onceI_mem.mp h) id⟩
    · rw [List.mem_cons, List.mem_cons, ih]
theorem onceI_nodup : ∀ zs : List (List Int), (onceI zs).Nodup
  | [] => List.nodup_nil
  | x :: zs => by
    show (if x ∈ onceI zs then onceI zs else x :: onceI zs).Nodup
    split
    · exact onceI_nodup zs
    · next h => exact List.nodup_cons.mpr ⟨h, onceI_nodup zs⟩
theorem onceI_perm {zs ys : List (List Int)} (h1 : ∀ y ∈ ys, y ∈ zs) (h2 : ∀ z ∈ zs, z ∈ ys) (nd : ys.Nodup) : ys.Perm (onceI zs) :=
  (List.perm_ext_iff_of_nodup nd (onceI_nodup zs)).mpr fun y => by rw [onceI_mem]; exact ⟨h1 y, h2 y⟩
theorem plains_in : ∀ {xs : List D}, plains xs = true → ∀ x ∈ xs, plain x = true
  | [], _, x, h => by cases h
  | y :: ys, p, x, h => by
    simp only [plains, Bool.and_eq_true] at p
    cases h with
    | head => exact p.1
    | tail _ h => exact plains_in p.2 x h
theorem deps_up {k : Nat} : ∀ {xs : List D}, (∀ x ∈ xs, dep x ≤ k) → deps xs ≤ k
  | [], _ => Nat.zero_le _
  | x :: xs, h => by
    unfold deps
    exact Nat.max_le.mpr ⟨h x (.head _), deps_up fun y hy => h y (.tail _ hy)⟩
theorem sortOk_perm {xs ys : List D} (h : xs.Perm ys) (k : sortOk ys = true) : sortOk xs = true := by
  simp only [sortOk, Bool.and_eq_true, decide_eq_true_eq, Bool.or_eq_true] at k ⊢
  obtain ⟨⟨⟨⟨h1, h2⟩, h3⟩, h4⟩, h5⟩ := k
  have all : ∀ {p : D → Bool}, ys.all p = true → xs.all p = true := fun {p} q => List.all_eq_true.mpr fun x hx => List.all_eq_true.mp q x (h.mem_iff.mp hx)
  refine ⟨⟨⟨⟨plains_of fun x hx => plains_in h1 x (h.mem_iff.mp hx), ?_⟩, h3.imp all all⟩, deps_up fun x hx => Nat.le_trans (deps_mem (h.mem_iff.mp hx)) h4⟩, by rw [h.length_eq]; exact h5⟩
  refine List.all_eq_true.mpr fun x hx => List.all_eq_true.mpr fun y hy => ?_
  exact List.all_eq_true.mp (List.all_eq_true.mp h2 x (h.mem_iff.mp hx)) y (h.mem_iff.mp hy)
abbrev AL := List (Addr × List Int)
section
variable {P : Program} {w : World} {A : Around} {E : Value → Shared → Prop} {s : Shared} {a : Addr}
/-- a member as it stands -/
def StI (L : AL) (v : Value) (d : D) : Prop := ∃ q ∈ L, v = .ref q.1 ∧ d = tI q.2
theorem stI_reads {h : Heap} {L : AL} (ht : ∀ q ∈ L, IsT P w h q.2 q.1) {v : Value} {d : D} (x : StI L v d) : Reads h v (toPy d) [] := by
  obtain ⟨q, hq, rfl, rfl⟩ := x
  obtain ⟨_, xs, e, ⟨o, h1, h2, n, h3⟩, ia⟩ := L2.tupInts_of (ht q hq)
  cases e
  rw [toPy_tI]
  exact .tuple h1 h2 h3 (ints_readAll h ia)
theorem each_refs {L : AL} : ∀ {vs : List Value}, (∀ v ∈ vs, ∃ q ∈ L, v = Value.ref q.1) → ∃ L1 : AL, vs = L1.map (fun q => Value.ref q.1) ∧ ∀ q ∈ L1, q ∈ L
  | [], _ => ⟨[], rfl, fun _ h => by cases h⟩
  | v :: vs, h => by
    obtain ⟨q, hq, rfl⟩ := h v (.head _)
    obtain ⟨L1, rfl, h1⟩ := each_refs fun u hu => h u (.tail _ hu)
    refine ⟨q :: L1, rfl, fun r hr => ?_⟩
    cases hr with
    | head => exact hq
    | tail _ hr => exact h1 r hr
theorem each_out {L : AL} : ∀ {out : List Value} {ds : List D}, PySem.W.EachIs (StI L) out ds → ∃ L1 : AL, out = L1.map (fun q => Value.ref q.1) ∧ ds = L1.map (fun q => tI q.2) ∧ ∀ q ∈ L1, q ∈ L
  | _, _, .nil => ⟨[], rfl, rfl, fun _ h => by cases h⟩
  | _, _, .cons ⟨q, hq, e1, e2⟩ t => by
    obtain ⟨L1, rfl, rfl, h1⟩ := each_out t
    subst e1 e2
    refine ⟨q :: L1, rfl, rfl, fun r hr => ?_⟩
    cases hr with
    | head => exact hq
    | tail _ hr => exact h1 r hr
theorem each_in {L : AL} : ∀ {L1 : AL}, (∀ q ∈ L1, q ∈ L) → PySem.W.EachIs (StI L) (L1.map fun q => Value.ref q.1) (L1.map fun q => tI q.2)
  | [], _ => .nil
  | q :: L1, h => .cons ⟨q, h q (.head _), rfl, rfl⟩ (each_in fun r hr => h r (.tail _ hr))
/-- an address bears one tuple: what has the same addresses has the same tuples -/
theorem same_tuples {h : Heap} {L : AL} (ht : ∀ q ∈ L, IsT P w h q.2 q.1) : ∀ {L1 L2 : AL}, (∀ q ∈ L1, q ∈ L) → (∀ q ∈ L2, q ∈ L) → (L1.map fun q => Value.ref q.1).Perm (L2.map fun q => Value.ref q.1) → (L1.map (·.2)).Perm (L2.map (·.2)) := by
  intro L1 L2 h1 h2 pm
  have key : ∀ (M : AL), (∀ q ∈ M, q ∈ L) → M.map (·.2) = (M.map fun q => Value.ref q.1).map fun v => ((L.find? fun q => decide (Value.ref q.1 = v)).map (·.2)).getD [] := fun M hM => by
    rw [List.map_map]
    refine List.map_congr_left fun q hq => ?_
    have hq := hM q hq
    simp only [Function.comp]
    cases e : L.find? fun r => decide (Value.ref r.1 = Value.ref q.1) with
    | none =>
      have := List.find?_eq_none.mp e q hq
      simp at this
    | some r =>
      have hr := List.mem_of_find?_eq_some e
      have er := List.find?_some e
      have er : r.1 = q.1 := by simpa using er
      have a1 := ht r hr
      rw [er] at a1
      exact ((ht q hq).inj a1)
  rw [key L1 h1, key L2 h2]
  exact pm.map _
theorem sorted_ofT {L : AL} {es : Ents} {ep : Nat} {t : SetTable} {Q : Value → Shared → Prop} (R : SetTR P w s.heap a L es ep t) (calm : A.handled = none) (room : A.units + 64 < cLine)
    (hal : sortOk (L.map fun q => tI q.2) = true)
    (q : ∀ (s' : Shared) (p : Addr) (out : AL) (c : Nat), (∀ b o, s.heap.get? b = some o → s'.heap.get? b = some o) → s'.gens = s.gens → s'.os = s.os → s.heap.objs.size ≤ p → s'.heap.get? p = some (seqObj "list" (out.map fun q => Value.ref q.1).toArray c) →
      (∀ q ∈ out, q ∈ L) → out.map (fun q => tI q.2) = sortD (L.map fun q => tI q.2) → Q (.ref p) s') : wpAny (model P w) A (call (.builtin "sorted") [.ref a]) Q E s := by
  obtain ⟨o, hg, hx, dt⟩ := R.ob
  have size := R.size
  have few := R.few
  refine Calls.call_function_entry kind_sorted plain_sorted entry_sorted (args_sorted1 _) ?_
  unfold Builtin.«sorted»
  refine wpAny_bind (m := checkCount "sorted" 1 1 _) (wpAny_pure (wpAny_bind (collect_set (A := A.in1) calm ⟨o, hg, hx.1, dt⟩ R.fits (by have h0 : (100 : Nat) < scanBound := (by decide); omega) R.tab.ris R.led fun s1 vs keep1 gr gn osn pm => ?_)))
  have rows : es.toList.map (·.2) = L.map fun q => Value.ref q.1 := by
    rw [R.rows, rowsOf, List.map_map]; rfl
  rw [rows] at pm
  obtain ⟨L1, rfl, sub1⟩ := each_refs (L := L) (vs := vs) fun v hv => by
    obtain ⟨q, hq, e⟩ := List.mem_map.mp (pm.mem_iff.mp hv)
    exact ⟨q, hq, e.symm⟩
  have lenV : L1.length = L.length := by have := pm.length_eq; simpa using this
  have fits : (L1.map fun q => Value.ref q.1).length ≤ sizeLine := by rw [List.length_map, sizeLine_eq]; omega
  refine wpAny_bind (wpAny_newList ?_ fits)
  have at1 : (s1.heap.push (seqObj "list" (L1.map fun q => Value.ref q.1).toArray 0)).get? s1.heap.objs.size = some (seqObj "list" (L1.map fun q => Value.ref q.1).toArray 0) := Heap.get?_push_size _ rfl
  have ht : ∀ q ∈ L, IsT P w (s1.heap.push (seqObj "list" (L1.map fun q => Value.ref q.1).toArray 0)) q.2 q.1 := fun q hq => isT_keep (R.tup q hq) fun b u e => Heap.get?_push_of_some _ (keep1 b u e)
  have ez := each_in sub1
  have rd : PySem.W.EachIs (fun v d => ∃ as, Reads (s1.heap.push (seqObj "list" (L1.map fun q => Value.ref q.1).toArray 0)) v (toPy d) as ∧ s1.heap.objs.size ∉ as) (L1.map fun q => Value.ref q.1) (L1.map fun q => tI q.2) :=
    ez.mono fun v d x => ⟨[], stI_reads ht x, by simp⟩
  have mem1 : ∀ d ∈ L1.map (fun q => tI q.2), d ∈ L.map fun q => tI q.2 := fun d hd => by
    obtain ⟨q, hq, rfl⟩ := List.mem_map.mp hd
    exact List.mem_map.mpr ⟨q, sub1 q hq, rfl⟩
  have perm2 : (L1.map (·.2)).Perm (L.map (·.2)) := same_tuples R.tup sub1 (fun _ h => h) pm
  have hal1 : sortOk (L1.map fun q => tI q.2) = true := by
    have e1 : (L1.map fun q => tI q.2).Perm (L.map fun q => tI q.2) := by
      have := perm2.map tI
      rw [List.map_map, List.map_map] at this
      exact this
    exact sortOk_perm e1 hal
  obtain ⟨h1, h2, h3, h4, h5⟩ := sortOk_p hal1
  refine wpAny_bind (wpAny_holding (PySem.W.list_sort_data (s := { s1 with heap := s1.heap.push (seqObj "list" (L1.map fun q => Value.ref q.1).toArray 0) }) (enc := toPy) at1 ez rd h2 h3 (by simpa using fits) (fun b hb => ?_) fun out len eo => ?_))
  · have := deps_mem hb
    rw [dep_py]
    show A.units + 1 + 1 + _ < cLine
    omega
  · obtain ⟨L2', rfl, e2, sub2⟩ := each_out eo
    obtain ⟨c, hc⟩ := sortedHeap_at (vs := (L1.map fun q => Value.ref q.1)) (out := (L2'.map fun q => Value.ref q.1).toArray) at1
    refine wpAny_pure ⟨_, rfl, q _ s1.heap.objs.size L2' c (fun b u e => ?_) gn osn gr hc sub2 ?_⟩
    · have e1 := keep1 b u e
      have lb := Heap.lt_size e1
      show (sortedHeap (s1.heap.push (seqObj "list" (L1.map fun q => Value.ref q.1).toArray 0)) s1.heap.objs.size _ _).get? b = some u
      rw [sortedHeap_old (Nat.ne_of_lt lb) (by rw [size_push']; exact Nat.lt_succ_of_lt lb)]
      exact Heap.get?_push_of_some _ e1
    · rw [← e2]
      have e3 := sort_permI perm2
      rw [List.map_map, List.map_map] at e3
      exact e3
end
section
variable {X : Cx}
/-- set(xs), then asked -/
def rSetX (K : PySem.W.Frag) (P : Program) (w : World) : List V → Hp → VK → Prop := fun vs H Q => rSetTxt K w vs H Q ∨ rSetOfT K P w vs H Q
theorem cr_setX (hc : X.calm = true) (hu : X.A.units + 64 < cLine) : CallR X (.type "set") (rSetX X.K X.prog X.w) := by
  intro pins s σ H xs us Q I r h
  rcases h with h | h
  · exact cr_set_txt hc pins s σ H xs us Q I r h
  · exact cr_setOfT hc hu pins s σ H xs us Q I r h
def rSortT (K : PySem.W.Frag) (P : Program) (w : World) : List V → Hp → VK → Prop := fun vs H Q => ∃ (p : Addr) (L : AL), vs = [.ref p] ∧ H p = some (SetTO P w p L) ∧ (∀ q ∈ L, SqT K H q.1 (q.2.map V.int)) ∧
  ((L.map (·.2)).Nodup → sortOk (L.map fun q => tI q.2) = true ∧ ∀ (p' : Addr) (out : AL), (∀ q ∈ out, q ∈ L) → out.map (fun q => tI q.2) = sortD (L.map fun q => tI q.2) → H p' = none → Q (.ref p') (upd H p' (.lst (out.map fun q => V.ref q.1))))
theorem cr_sorted_T (hc : X.calm = true) (hu : X.A.units + 64 < cLine) : CallR X (.builtin "sorted") (rSortT X.K X.prog X.w) := by
  intro pins s σ H vs us Q I r h
  obtain ⟨a, L, rfl, ha, ht, q⟩ := h
  obtain ⟨es, ep, t, R⟩ := SetT0.full (show SetT0 X.prog X.w s.heap a L from (I.hok a _ ha).1) fun p hp => L2.Inv.isT I (ht p hp)
  rw [Vals.ref1 r]
  obtain ⟨hal, q⟩ := q R.nd
  refine sorted_ofT R (I.ok.hd hc) hu hal fun s' p out c kp gn osn new at1 sub e => ?_
  have hn : H p = none := I.hok.fresh new
  have len : out.length = L.length := by
    have h1 := congrArg List.length e
    simpa [sortD] using h1
  have few := R.few
  have J : L2.Inv X pins σ (upd H p (.lst (out.map fun q => V.ref q.1))) { s with heap := s'.heap, gens := s'.gens, drawn := s'.drawn, toks := s'.toks } :=
    I.call (ch := []) (Un.laid kp new hn) (I.hok.laid kp new ⟨by rw [List.length_map, sizeLine_eq]; omega, _, c, vals_of_refs out, at1⟩) (by rw [gn]; exact I.bare) (fun _ z => nomatch z)
  have es' : s' = { s with heap := s'.heap, gens := s'.gens, drawn := s'.drawn, toks := s'.toks } := by
    obtain ⟨_, _, _, _, _⟩ := s'
    cases osn
    rfl
  rw [es']
  exact ⟨.ref p, _, J, rfl, q p out sub e hn⟩
theorem cr_sorted_X (hc : X.calm = true) (hu : X.A.units + 64 < cLine) : CallR X (.builtin "sorted") (fun vs H Q => rSortX X.w vs H Q ∨ rSortT X.K X.prog X.w vs H Q) := by
  intro pins s σ H xs us Q I r h
  rcases h with h | h
  · exact cr_sorted_set hc hu pins s σ H xs us Q I r h
  · exact cr_sorted_T hc hu pins s σ H xs us Q I r h
/-- len(set) -/
theorem cr_len_X : CallR X (.builtin "len") (fun vs H Q => (∃ (p : Addr) (es : Ents), vs = [.ref p] ∧ H p = some (SetX X.w p es) ∧ es.size ≤ 60 ∧ Q (.int es.size) H) ∨
    ∃ (p : Addr) (L : AL), vs = [.ref p] ∧ H p = some (SetTO X.prog X.w p L) ∧ ((L.map (·.2)).Nodup → Q (.int L.length) H)) := by
  intro pins s σ H xs us Q I r h
  rcases h with ⟨p, es, rfl, hp, few, q⟩ | ⟨p, L, rfl, hp, q⟩
  · obtain ⟨t, L⟩ := (show ∃ t, Laid X.w s.heap p es t from (I.hok p _ hp).1)
    obtain ⟨o, ep, ho, hx, hd⟩ := L.ob
    rw [Vals.ref1 r]
    exact call_len_set ho hx hd L.fit (by omega) ⟨.int es.size, H, I.tok _, ⟨_, rfl⟩, q⟩
  · obtain ⟨es, ep, t, ⟨o, ho, hx, hd⟩, h2, h3, h4, h5, h6, h7, h8⟩ := SetT0.ex (show SetT0 X.prog X.w s.heap p L from (I.hok p _ hp).1)
    have hl : es.size = L.length := by have := congrArg List.length h2; simpa [rowsOf] using this
    have fit : t.fits es.size = true := by
      have z1 := h3.sz
      rw [List.length_map] at z1
      unfold SetTable.fits SetTable.fill
      rw [h3.dm, Bool.and_eq_true, beq_iff_eq, decide_eq_true_eq]
      show t.place.size = es.size ∧ t.place.size + 0 ≤ t.mask
      omega
    rw [Vals.ref1 r]
    refine call_len_set ho hx hd fit (by omega) ⟨.int es.size, H, I.tok _, ⟨_, rfl⟩, ?_⟩
    rw [hl]
    exact q h4
end
end Mi
/-! MiI: a checked expression's run is its term's meaning. -/
namespace Mi
open PySem PySem.Spec L2

theorem evs_len (cf : Nat → List D → Store → R D) : ∀ (es : List E) (ρ : Env) (st : Store) (ds : List D) (st' : Store), evs cf es ρ st = .ok ds st' → ds.length = es.length
  | [], ρ, st, ds, st', h => by unfold evs at h; cases h; rfl
  | e :: es, ρ, st, ds, st', h => by
    unfold evs at h
    cases e1 : ev cf e ρ st with
    | ok d s1 =>
      rw [e1] at h
      simp only [R.bind_ok] at h
      cases e2 : evs cf es ρ s1 with
      | ok ds2 s2 =>
        rw [e2] at h
        simp only [R.bind_ok] at h
        cases h
        rw [List.length_cons, List.length_cons, evs_len cf es ρ s1 ds2 _ e2]
      | exc c s => rw [e2] at h; cases h
      | fault => rw [e2] at h; cases h
    | exc c s => rw [e1] at h; cases h
    | fault => rw [e1] at h; cases h
/-! ### a table cut -/
section
variable {K : PySem.W.Frag} {H : Hp} {m m' : Pl} {st : Store}
mutual
theorem RD.blw : ∀ {d : D} {v : V}, RD K H m d v → below m.t.length d = true
  | _, _, .non => rfl
  | _, _, .bl _ => rfl
  | _, _, .int _ => rfl
  | _, _, .zr => rfl
  | _, _, .str _ => rfl
  | _, _, .tup _ _ _ r => by unfold Mi.below; exact RDs.blw r
  | _, _, .lst _ r => by unfold Mi.below; exact RDs.blw r
  | _, _, .loc h => by unfold Mi.below; exact decide_eq_true (List.getElem?_eq_some_iff.mp h).1
  | _, _, .odd _ => rfl
  | _, _, .exc _ _ => rfl
theorem RDs.blw : ∀ {ds : List D} {vs : List V}, RDs K H m ds vs → belows m.t.length ds = true
  | _, _, .nil => rfl
  | _, _, .cons h r => by unfold belows; rw [RD.blw h, RDs.blw r]; rfl
end
mutual
theorem flat_below (n : Nat) : ∀ {d : D}, flat d = true → below n d = true
  | .non, _ => rfl
  | .bl _, _ => rfl
  | .int _, _ => rfl
  | .zr, _ => rfl
  | .str _, _ => rfl
  | .exc _, _ => rfl
  | .odd, _ => rfl
  | .loc _, h => by cases h
  | .tup xs, h => by unfold Mi.below; exact flats_belows n (by simpa [flat] using h)
  | .lst xs, h => by unfold Mi.below; exact flats_belows n (by simpa [flat] using h)
theorem flats_belows (n : Nat) : ∀ {d : List D}, flats d = true → belows n d = true
  | [], _ => rfl
  | x :: xs, h => by
    simp only [flats, Bool.and_eq_true] at h
    unfold belows
    rw [flat_below n h.1, flats_belows n h.2]; rfl
end
structure Cut (n : Nat) (m m' : Pl) : Prop where
  t : ∀ (l : Nat) (b : Addr), l < n → m.t[l]? = some b → m'.t[l]? = some b
  sub : ∀ b, b ∈ m'.t → b ∈ m.t
  x : m'.x = m.x
mutual
theorem RD.ct {n : Nat} (c : Cut n m m') : ∀ {d : D} {v : V}, Mi.below n d = true → RD K H m d v → RD K H m' d v
  | _, _, _, .non => .non
  | _, _, _, .bl b => .bl b
  | _, _, _, .int i => .int i
  | _, _, _, .zr => .zr
  | _, _, _, .str s => .str s
  | _, _, p, .tup h e e3 r => .tup h e e3 (RDs.ct c (by unfold Mi.below at p; exact p) r)
  | _, _, p, .lst h r => .lst ⟨⟨fun z => h.1.1 (c.sub _ z), by rw [c.x]; exact h.1.2⟩, h.2⟩ (RDs.ct c (by unfold Mi.below at p; exact p) r)
  | _, _, p, .loc h => .loc (c.t _ _ (by unfold Mi.below at p; exact of_decide_eq_true p) h)
  | _, _, _, .odd h => .odd h
  | _, _, _, .exc k h => .exc k h
theorem RDs.ct {n : Nat} (c : Cut n m m') : ∀ {ds : List D} {vs : List V}, belows n ds = true → RDs K H m ds vs → RDs K H m' ds vs
  | _, _, _, .nil => .nil
  | _, _, p, .cons h r => by
    unfold belows at p
    rw [Bool.and_eq_true] at p
    exact .cons (RD.ct c p.1 h) (RDs.ct c p.2 r)
end
def Pl.cut (m : Pl) (n : Nat) : Pl := ⟨m.t.take n, m.x⟩
theorem cut_take (n : Nat) : Cut n m (m.cut n) := ⟨fun l b h e => by
  show (m.t.take n)[l]? = some b
  rw [List.getElem?_take_of_lt h]; exact e, fun b h => List.mem_of_mem_take h, rfl⟩
theorem CellR.ct {n : Nat} {c0 : Cell} {a : Addr} (h : CellR K H m c0 a) (c : Cut n m m') (b : cbelow n c0 = true) : CellR K H m' c0 a := by
  cases c0 with
  | lst ds => obtain ⟨vs, e, r⟩ := h; exact ⟨vs, e, r.ct c b⟩
  | dk kvs => obtain ⟨vs, e, k, r⟩ := h; exact ⟨vs, e, k, r.ct c b⟩
  | dt kvs => obtain ⟨vs, nn, e, k, r⟩ := h; exact ⟨vs, nn, e, k, r.ct c b⟩
/-- a store cut: what is left points nowhere behind -/
theorem SimS.cut (s : SimS K H m st) {n : Nat} (hn : n ≤ st.length) (hb : ∀ l c, l < n → st[l]? = some c → cbelow n c = true) : SimS K H (m.cut n) (st.take n) := by
  refine ⟨s.nd.sublist (List.take_sublist _ _), ?_, fun l a c h1 h2 => ?_, fun a ha => ?_⟩
  · show (m.t.take n).length = _
    rw [List.length_take, List.length_take, s.len]
  · have hl : l < n := by
      have := (List.getElem?_eq_some_iff.mp h2).1
      rw [List.length_take] at this; omega
    have h1 : (m.t.take n)[l]? = some a := h1
    rw [List.getElem?_take_of_lt hl] at h1 h2
    exact (s.cell l a c h1 h2).ct (cut_take n) (hb l c hl h2)
  · obtain ⟨h1, h2⟩ := s.pv a ha
    exact ⟨fun z => h1 (List.mem_of_mem_take z), h2⟩
theorem SimS.below (s : SimS K H m st) {l : Nat} {c : Cell} (h : st[l]? = some c) : cbelow st.length c = true := by
  have hl : l < m.t.length := by rw [s.len]; exact (List.getElem?_eq_some_iff.mp h).1
  have q := s.cell l m.t[l] c (List.getElem?_eq_getElem hl) h
  cases c with
  | lst ds =>
    obtain ⟨vs, e, r⟩ := q
    rw [← s.len]
    exact r.blw
  | dk kvs =>
    obtain ⟨vs, e, k, r⟩ := q
    rw [← s.len]
    exact r.blw
  | dt kvs =>
    obtain ⟨vs, _, e, k, r⟩ := q
    rw [← s.len]
    exact r.blw
theorem cflat_below {c : Cell} (n : Nat) (h : cflat c = true) : cbelow n c = true := by
  cases c with
  | lst ds => exact flats_belows n h
  | dk kvs => exact flats_belows n h
  | dt kvs => exact flats_belows n h
/-- behind what keeps the caller's cells -/
theorem Keeps.below {K : PySem.W.Frag} {H : Hp} {m : Pl} {st st' : Store} (s : SimS K H m st) (k : Keeps st st') : ∀ l c, l < st.length → st'[l]? = some c → cbelow st.length c = true := fun l c hl h => by
  rcases k.2 l hl with e | ⟨c', e, hc⟩
  · exact s.below (e ▸ h)
  · rw [e] at h; cases h; exact cflat_below _ hc
theorem Ext.cutE {H0 : Hp} {m0 : Pl} (x : Ext H0 H m0 m) {n : Nat} (hn : m0.t.length = n) : Ext H0 H m0 (m.cut n) := by
  refine ⟨fun l a h => ?_, fun a h h' => x.new a (List.mem_of_mem_take h) h', x.keep, x.pv⟩
  show (m.t.take n)[l]? = some a
  rw [List.getElem?_take_of_lt (by rw [← hn]; exact (List.getElem?_eq_some_iff.mp h).1)]
  exact x.pre l a h
end
section
variable {T : Tab} {n : Nat} {cls : Nat → Value} {N : List Str}
theorem Good.blk {X : Cx} (G : Good T n cls N X) {s : Shared} {H : Hp} {scope : Scope} {cenv : PySem.Env} {fp : List Addr} : Good T n cls N (X.blk s H scope cenv fp) :=
  ⟨G.calm, G.nm, G.nd, G.room, G.units, G.free, G.fns, G.gls, G.gd, G.xf, G.cl⟩
theorem Good.mg {X : Cx} (G : Good T n cls N X) (x : String) (h : x ∈ bnames := by decide) : X.mg (x : Str) = none := G.free x h
theorem tk_never {X : Cx} (h : X.xe = fun _ _ => False) : Takes X (fun _ _ _ _ => False) := fun _ _ x => by
  obtain ⟨_, _, _, _, _, _, _, _, _, _, _, _, _, _, _, _, z⟩ := x
  exact z.elim
theorem tCall_D {X : Cx} {W : WX} {f : List D → Store → R D} {fa : Env → Store → R (List D)} {df : List D} {fz : Bool} (hk : ∀ ds st d st', f ds st = .ok d st' → Keeps st st') (hdf : ∀ (K : PySem.W.Frag) (H : Hp) (m : Pl), RDs K H m df (df.map atomV)) {σ : L2.St} {H : Hp} {Q : VK}
    (h : tE X.K cls W (fun ρ st => (fa ρ st).bind fun ds st => if fz then freezeTop st.length (f (ds ++ df) st) else f (ds ++ df) st) σ H Q) :
    tCallSD (spD X.K cls f) (df.map atomV) (WE W) (tL X.K cls W fa) σ H Q := by
  obtain ⟨m, ρ, st, hE, hS, hP⟩ := h
  refine tG.of hE hS hP fun ds st1 m1 vs H1 _ _ hE1 hS1 r1 hP1 => ?_
  refine ⟨m1, st1, ds ++ df, hS1, r1.append (hdf _ _ _), ?_⟩
  cases e : f (ds ++ df) st1 with
  | ok d st' =>
    intro m' v H' x s' rd
    rw [e] at hP1
    cases fz with
    | false =>
      simp only [Bool.false_eq_true, if_false] at hP1
      exact hP1 m' v H' x s' rd
    | true =>
      simp only [if_true] at hP1
      unfold freezeTop at hP1
      split at hP1
      · next l st2 ee =>
        cases ee
        split at hP1
        · next hl =>
          subst hl
          split at hP1
          · next xs hc =>
            split at hP1
            · next hb =>
              -- the cell at the end is put away
              obtain ⟨a, rfl, ha⟩ := rd_loc rd
              obtain ⟨us, h1, h2⟩ := s'.cell _ a _ ha hc
              have hlt : st1.length ≤ st'.length := (hk _ _ _ _ e).1
              refine hP1 (m'.cut st1.length) _ H' (x.cutE hS1.len) (s'.cut hlt ((hk _ _ _ _ e).below hS1)) (.lst ⟨⟨fun z => ?_, fun z => (s'.pv a z).1 (List.mem_of_getElem? ha)⟩, .inl h1⟩ (h2.ct (cut_take _) hb))
              obtain ⟨j, hj⟩ := List.getElem?_of_mem z
              have hj : (m'.t.take st1.length)[j]? = some a := hj
              have hjl : j < st1.length := by
                have := (List.getElem?_eq_some_iff.mp hj).1
                rw [List.length_take] at this; omega
              rw [List.getElem?_take_of_lt hjl] at hj
              have h3 := List.getElem?_eq_some_iff.mp hj
              have h4 := List.getElem?_eq_some_iff.mp ha
              have := (List.getElem_inj (h₀ := h3.1) (h₁ := h4.1) s'.nd).mp (h3.2.trans h4.2.symm)
              omega
            · exact False.elim hP1
          · exact False.elim hP1
        · exact hP1 m' v H' x s' rd
      · exact hP1 m' v H' x s' rd
  | exc c s' =>
    intro m' H' x s2
    rw [e] at hP1
    cases fz with
    | false => exact hP1 m' H' x s2
    | true => exact hP1 m' H' x s2
  | fault => rw [e] at hP1; cases fz <;> exact hP1
theorem prm_boot : ∀ (p : Prm) (v : Value), prmV p = some v → bootBuiltins (prmName p : Str) = some v := by
  intro p v h
  cases p <;> cases h <;> decide +kernel
theorem prm_mem : ∀ p : Prm, prmName p ∈ bnames := by intro p; cases p <;> decide
theorem prm_kind : ∀ (p : Prm) (v : Value), prmV p = some v → (∃ id, v = .builtin id) ∨ ∃ t, v = .type t := by
  intro p v h
  cases p <;> cases h <;> first | exact .inl ⟨_, rfl⟩ | exact .inr ⟨_, rfl⟩
theorem ty_boot : ∀ (t : Ty) (s : String), tyName t = some s → bootBuiltins (s : Str) = some (.type s) ∧ s ∈ bnames := by
  intro t s h
  cases t <;> cases h <;> exact ⟨by decide +kernel, by decide⟩
theorem tOp_callTy {X : Cx} {W : WX} {f : List D → Store → R D} {fa : Env → Store → R (List D)} {σ : L2.St} {H : Hp} {Q : VK} (h : tE X.K cls W (fun ρ st => (fa ρ st).bind fun ds st => f ds st) σ H Q) : tCB (rP X.K cls f) (tL X.K cls W fa) σ H Q := by
  obtain ⟨m, ρ, st, hE, hS, hP⟩ := h
  refine tG.of hE hS hP fun ds st1 m1 vs H1 _ _ hE1 hS1 r1 hP1 => ?_
  exact ⟨W, σ, m1, st1, ds, hS1, r1, hP1⟩
/-- an item of a BoolOp's rest -/
theorem pe_last {X : Cx} {op : BoolOp} {x : Expr} {p : Pos} {t : TE} (h : PE X x t) : PE X (.BoolOp op [x] p) t := pe_one h

theorem Keeps.take {st st' : Store} (k : Keeps st st') : Keeps st (st'.take st.length) := ⟨by rw [List.length_take]; exact Nat.le_min.mpr ⟨Nat.le_refl _, k.1⟩, fun l hl => by rw [List.getElem?_take_of_lt hl]; exact k.2 l hl⟩
theorem Keeps.app {st st' more : Store} (k : Keeps st st') : Keeps st (st' ++ more) := ⟨by rw [List.length_append]; have := k.1; omega, fun l hl => by rw [List.getElem?_append_left (Nat.lt_of_lt_of_le hl k.1)]; exact k.2 l hl⟩
theorem canon_keeps {st st2 st' : Store} {d d' : D} (h : canon st d st2 = .ok d' st') : Keeps st st' := by
  unfold canon at h
  split at h
  · next hk =>
    split at h
    · split at h
      · cases h; exact hk.take
      · split at h
        · split at h
          · cases h; exact hk.take.app
          · cases h; exact hk
        · cases h
    · split at h
      · cases h; exact hk.take
      · cases h
  · cases h
theorem callN_keeps {T : List Fn} : ∀ {n f : Nat} {ds : List D} {st : Store} {d : D} {st' : Store}, callN T n f ds st = .ok d st' → Keeps st st'
  | 0, _, _, _, _, _, h => by cases h
  | n + 1, f, ds, st, d, st', h => by
    unfold callN at h
    split at h
    · split at h
      · unfold leave at h
        split at h
        · exact canon_keeps h
        · exact canon_keeps h
        · split at h <;> cases h
        · cases h
      · cases h
    · cases h
theorem compop_bl {op : COp} {a b d : D} {st st' : Store} (h : compop op a b st = .ok d st') : ∃ k, d = .bl k ∧ st' = st := by
  have br : ∀ {o : Option Bool}, boolR o st = .ok d st' → ∃ k, d = .bl k ∧ st' = st := fun {o} h => by
    cases o with
    | none => cases h
    | some k => cases h; exact ⟨k, rfl, rfl⟩
  cases op <;> simp only [compop] at h <;> first | exact br h | (split at h <;> first | exact br h | (cases h; exact ⟨_, rfl, rfl⟩))
/-! ### isinstance -/
def pyTy (st : Store) : D → String
  | .non => "NoneType" | .bl _ => "bool" | .int _ => "int" | .zr => "int" | .str _ => "str" | .tup _ => "tuple" | .lst _ => "list" | .exc _ => "object" | .odd => "dict" | .loc l => (match st[l]? with | some (.dk _) => "dict" | some (.dt _) => "dict" | _ => "list")
/-- a thing's class -/
def tyOf (K : PySem.W.Frag) (st : Store) : D → Value
  | .exc c => clsV K c
  | d => .type (pyTy st d)
/-- a class that is asked for -/
def tyVal (K : PySem.W.Frag) : Ty → Value
  | .cls c => clsV K c
  | t => .type ((tyName t).getD "")
def tyB (a b : String) : Bool := a == b || (a == "bool" && b == "int")
theorem kit_all : (pyTys.all fun a => ["int", "bool", "str", "tuple", "list", "dict", "ValueError"].all fun b => kitB a b == some (tyB a b)) = true := by decide +kernel
theorem kit_of_ty {K : PySem.W.Frag} {a b : String} (ha : a ∈ pyTys) (hb : b ∈ ["int", "bool", "str", "tuple", "list", "dict", "ValueError"]) : PySem.W.kitOne K (.type a) (.type b) = some (tyB a b) := by
  refine kit_ty ?_
  have := kit_all
  rw [List.all_eq_true] at this
  have := this a ha
  rw [List.all_eq_true] at this
  exact beq_iff_eq.mp (this b hb)
/-- a value's class, exceptions of the program's own too -/
def TyE (K : PySem.W.Frag) (H : Hp) (v : V) (t : Value) : Prop := TyX K H v t ∨ ∃ a c, v = .ref a ∧ ClsOk K c ∧ H a = some (.ext (ExA K c a)) ∧ t = clsV K c
theorem kit_ofE {X : Cx} {pins : List (Addr × Obj)} {σ : L2.St} {H : Hp} {s : Shared} {x : V} {u t : Value} (I : L2.Inv X pins σ H s) (rx : RelV x u) (ty : TyE X.K H x t) : ∃ P : Heap → Prop, PySem.W.KitX X.K u t P ∧ P s.heap ∧ u ≠ .builtin "__main__.__loader__#opaque" := by
  rcases ty with ty | ⟨a, c, rfl, k, ha, rfl⟩
  · exact L2.kit_of I rx ty
  · cases (show u = Value.ref a from rx)
    obtain ⟨⟨oe, h1, ⟨z1, z2⟩, vs, z3⟩, _⟩ := I.hok a _ ha
    have C := k.cl
    rw [clsV_ref k.le] at z1 ⊢
    refine ⟨fun h => PySem.W.InstAt h a oe (He.ga X.K (excN c)) none, PySem.W.handS_kitx_exc C.hg C.hk C.hs C.hd C.ha C.hn C.ht C.hm, ?_, fun z => nomatch z⟩
    obtain ⟨o1, o2, o3, o4⟩ := oe
    simp only at z1 z2 z3
    subst z1 z2 z3
    exact ⟨h1, rfl, rfl, trivial⟩
/-- isinstance, one class -/
theorem call_isE1 {X : Cx} : CallR X (.builtin "isinstance") (fun xs H Q => ∃ (x c : V) (t u : Value) (b : Bool), xs = [x, c] ∧ ClsV c u ∧ TyE X.K H x t ∧ PySem.W.kitOne X.K t u = some b ∧ Q (.bl b) H) := by
  intro pins s σ H vs us Q I r q
  obtain ⟨x, c, t, u, b, rfl, cv, ty, kk, q⟩ := q
  obtain ⟨w1, w2, rfl, r1, r2⟩ := vals2 r
  obtain rfl := cv.eq r2
  obtain ⟨P, Z, hp, hx⟩ := kit_ofE I r1 ty
  exact PySem.W.kia_one Z I.kIn hp kk hx fun _ => ⟨.bl b, H, I.tok _, rfl, q⟩
/-- isinstance, a tuple of classes that was just laid -/
theorem call_isEs {X : Cx} : CallR X (.builtin "isinstance") (fun xs H Q => ∃ (x : V) (tp : Addr) (cs : List V) (t : Value) (ws : List Value) (b : Bool), xs = [x, .ref tp] ∧ H tp = some (.tup cs) ∧ Paired ClsV cs ws ∧ TyE X.K H x t ∧ PySem.W.kitAny X.K t ws = some b ∧ Q (.bl b) H) := by
  intro pins s σ H vs us Q I r q
  obtain ⟨x, tp, cs, t, ws, b, rfl, hT, cv, ty, kk, q⟩ := q
  obtain ⟨w1, w2, rfl, r1, r2⟩ := vals2 r
  cases (show w2 = Value.ref tp from r2)
  obtain ⟨_, its, rv, ⟨oc, od, dt, sl⟩, h1, h2, n, h3⟩ := I.hok tp _ hT
  obtain rfl := ClsV.all cv rv
  simp only at h2 h3
  subst h2 h3
  obtain ⟨P, Z, hp, hx⟩ := kit_ofE I r1 ty
  exact PySem.W.kia_tup Z I.kIn hp h1 kk hx fun _ => ⟨.bl b, H, I.tok _, rfl, q⟩
theorem ty_ok {K : PySem.W.Frag} {H : Hp} {m : Pl} {st : Store} {d : D} {v : V} (hS : SimS K H m st) (r : RD K H m d v) : TyE K H v (tyOf K st d) ∧ ((∃ c, d = .exc c ∧ ClsOk K c) ∨ tyOf K st d = .type (pyTy st d) ∧ pyTy st d ∈ pyTys) := by
  cases r with
  | exc k h => exact ⟨.inr ⟨_, _, rfl, k, h, rfl⟩, .inl ⟨_, rfl, k⟩⟩
  | non => exact ⟨.inl (.base .non), .inr ⟨rfl, by simp [pyTy, pyTys]⟩⟩
  | bl b => exact ⟨.inl (.base (.bl b)), .inr ⟨rfl, by simp [pyTy, pyTys]⟩⟩
  | int b => exact ⟨.inl (.base (.int b)), .inr ⟨rfl, by simp [pyTy, pyTys]⟩⟩
  | zr => exact ⟨.inl (.base (.int 0)), .inr ⟨rfl, by simp [pyTy, pyTys]⟩⟩
  | str b => exact ⟨.inl (.base (.str b)), .inr ⟨rfl, by simp [pyTy, pyTys]⟩⟩
  | tup h _ _ _ =>
    refine ⟨.inl ?_, .inr ⟨rfl, by simp [pyTy, pyTys]⟩⟩
    rcases h with (h | ⟨o, h⟩) | ⟨o, its, n, h, hc, _⟩
    · exact .base (.tup h)
    · exact .fTuple h
    · exact .kTuple h hc
  | lst h _ =>
    refine ⟨.inl ?_, .inr ⟨rfl, by simp [pyTy, pyTys]⟩⟩
    rcases h.2 with h | ⟨o, h⟩
    · exact .base (.lst h)
    · exact .base (.frz h)
  | odd h => exact ⟨.inl (.base (.dT h)), .inr ⟨rfl, by simp [pyTy, pyTys]⟩⟩
  | @loc l a h =>
    have hl : l < st.length := by rw [← hS.len]; exact (List.getElem?_eq_some_iff.mp h).1
    have hc := hS.cell l a st[l] h (List.getElem?_eq_getElem hl)
    have hg : st[l]? = some st[l] := List.getElem?_eq_getElem hl
    have hT : tyOf K st (.loc l) = .type (pyTy st (.loc l)) := rfl
    rw [hT]
    cases ec : st[l] with
    | lst ds =>
      rw [ec] at hg hc
      obtain ⟨vs, e, _⟩ := hc
      have : pyTy st (.loc l) = "list" := by simp [pyTy, hg]
      rw [this]
      exact ⟨.inl (.base (.lst e)), .inr ⟨rfl, by simp [pyTys]⟩⟩
    | dk kvs =>
      rw [ec] at hg hc
      obtain ⟨vs, e, _⟩ := hc
      have : pyTy st (.loc l) = "dict" := by simp [pyTy, hg]
      rw [this]
      exact ⟨.inl (.base (.dK e)), .inr ⟨rfl, by simp [pyTys]⟩⟩
    | dt kvs =>
      rw [ec] at hg hc
      obtain ⟨vs, _, e, _⟩ := hc
      have : pyTy st (.loc l) = "dict" := by simp [pyTy, hg]
      rw [this]
      exact ⟨.inl (.base (.dT e)), .inr ⟨rfl, by simp [pyTys]⟩⟩
theorem isTy_ok {K : PySem.W.Frag} {H : Hp} {m : Pl} {st : Store} {d : D} {v : V} {t : Ty} {s : String} (hS : SimS K H m st) (r : RD K H m d v) (nx : ∀ c, d ≠ .exc c) (ht : tyName t = some s) : isTy st d t = tyB (pyTy st d) s := by
  cases r with
  | exc k h => exact absurd rfl (nx _)
  | loc h =>
    next l a =>
    have hl : l < st.length := by rw [← hS.len]; exact (List.getElem?_eq_some_iff.mp h).1
    have hc := hS.cell l a st[l] h (List.getElem?_eq_getElem hl)
    have hg : st[l]? = some st[l] := List.getElem?_eq_getElem hl
    cases ec : st[l] with
    | lst ds =>
      rw [ec] at hg
      cases t <;> cases ht <;> simp [isTy, look, hg, tyB, pyTy]
    | dk kvs =>
      rw [ec] at hg
      cases t <;> cases ht <;> simp [isTy, look, hg, tyB, pyTy]
    | dt kvs =>
      rw [ec] at hg
      cases t <;> cases ht <;> simp [isTy, look, hg, tyB, pyTy]
  | _ => cases t <;> cases ht <;> simp [isTy, look, tyB, pyTy]
theorem tyName_mem {t : Ty} {s : String} (h : tyName t = some s) : s ∈ ["int", "bool", "str", "tuple", "list", "dict", "ValueError"] ∧ s ∈ pyTys := by
  cases t <;> cases h <;> simp [pyTys]
/-- a class that may be asked for -/
def TyKn (K : PySem.W.Frag) : Ty → Prop
  | .cls c => c = 9 ∨ ClsOk K c
  | _ => True
theorem isTy_cls {st : Store} {d : D} {c : Nat} (nx : ∀ e, d ≠ .exc e) : isTy st d (.cls c) = false := by
  cases d <;> first | rfl | exact absurd rfl (nx _)
theorem kit_one {K : PySem.W.Frag} {st : Store} {H : Hp} {m : Pl} {d : D} {v : V} (hS : SimS K H m st) (r : RD K H m d v) {t : Ty} (hk : TyKn K t) : PySem.W.kitOne K (tyOf K st d) (tyVal K t) = some (isTy st d t) := by
  rcases (ty_ok hS r).2 with ⟨e, rfl, ke⟩ | ⟨q1, q2⟩
  · show PySem.W.kitOne K (clsV K e) (tyVal K t) = _
    by_cases hc : ∃ c, t = .cls c
    · obtain ⟨c, rfl⟩ := hc
      rcases hk with rfl | hk
      · have e9 : tyVal K (.cls 9) = .type "ValueError" := rfl
        rw [e9, ke.ve]
        simp [isTy, sub]
      · exact (ke.two c hk.le hk.glo).2
    · have hn : ∃ s, tyName t = some s := by cases t <;> first | exact ⟨_, rfl⟩ | exact absurd ⟨_, rfl⟩ hc
      obtain ⟨s, hs⟩ := hn
      have e1 : tyVal K t = .type s := by cases t <;> cases hs <;> rfl
      rw [e1, (ke.no s (tyName_mem hs).2).1]
      cases t <;> cases hs <;> rfl
  · rw [q1]
    have nx : ∀ c, d ≠ .exc c := fun c e => by subst e; simp [pyTy, pyTys] at q2
    by_cases hc : ∃ c, t = .cls c
    · obtain ⟨c, rfl⟩ := hc
      rw [isTy_cls nx]
      rcases hk with rfl | hk
      · have e9 : tyVal K (.cls 9) = .type "ValueError" := rfl
        rw [e9, kit_of_ty q2 (by simp)]
        have : ∀ a ∈ pyTys, tyB a "ValueError" = false := by decide
        rw [this _ q2]
      · exact (hk.no _ q2).2
    · have hn : ∃ s, tyName t = some s := by cases t <;> first | exact ⟨_, rfl⟩ | exact absurd ⟨_, rfl⟩ hc
      obtain ⟨s, hs⟩ := hn
      have e1 : tyVal K t = .type s := by cases t <;> cases hs <;> rfl
      rw [e1, kit_of_ty q2 (tyName_mem hs).1, isTy_ok hS r nx hs]
theorem cls_pe {X : Cx} {c : Nat} {x : Str} {p : Pos} (G : Good T n cls N X) (h : clsIs T.xs X.env.scope c x = true) : ∃ v, ClsV v (clsV X.K c) ∧ PE X (.Name x p) (tC v) ∧ (c = 9 ∨ ClsOk X.K c) := by
  simp only [clsIs, Bool.and_eq_true, beq_iff_eq, Bool.or_eq_true, List.contains_iff_mem] at h
  obtain ⟨⟨rfl, hg⟩, hc⟩ := h
  obtain ⟨g1, g2, g3⟩ := gloB_glo hg
  rcases hc with rfl | hc
  · exact ⟨.ty "ValueError", .ty _, pe_bltn g1 (G.mg "ValueError" (by decide)) (by decide +kernel) rfl g3 g2, .inl rfl⟩
  · obtain ⟨k, hm⟩ := G.xf c hc
    rw [clsV_ref k.le] at hm ⊢
    exact ⟨.ref (He.ga X.K (excN c)), .own _, pe_glob g1 hm rfl g2, .inr k⟩
theorem pe_ty {X : Cx} {t : Ty} {e : Expr} (G : Good T n cls N X) (h : tyIs T.xs X.env.scope t e = true) : ∃ v, ClsV v (tyVal X.K t) ∧ PE X e (tC v) ∧ TyKn X.K t := by
  unfold tyIs at h
  split at h
  · next x p =>
    split at h
    · next c => exact cls_pe G h
    · next hne =>
      split at h
      · next s hs =>
        simp only [Bool.and_eq_true, beq_iff_eq] at h
        obtain ⟨rfl, hg⟩ := h
        obtain ⟨g1, g2, g3⟩ := gloB_glo hg
        obtain ⟨b1, b2⟩ := ty_boot t s hs
        have e1 : tyVal X.K t = .type s := by cases t <;> cases hs <;> rfl
        rw [e1]
        exact ⟨.ty s, .ty s, pe_bltn g1 (G.mg s b2) b1 rfl g3 g2, by cases t <;> first | trivial | cases hs⟩
      · cases h
  · cases h
theorem ty_plain {xs : List Nat} {sc : Scope} {t : Ty} {e : Expr} (h : tyIs xs sc t e = true) : plainE e = true := by
  unfold tyIs at h
  split at h
  · rfl
  · cases h
theorem kitAny_of {K : PySem.W.Frag} {st : Store} {H : Hp} {m : Pl} {d : D} {v : V} (hS : SimS K H m st) (r : RD K H m d v) : ∀ {tys : List Ty}, (∀ t ∈ tys, TyKn K t) → PySem.W.kitAny K (tyOf K st d) (tys.map (tyVal K)) = some (tys.any (isTy st d))
  | [], _ => rfl
  | t :: ts, h => by
    have k1 := kit_one hS r (h t (.head _))
    refine kitAny_cons k1 (fun e => ?_) fun e => ?_
    · rw [List.any_cons, e, Bool.false_or]
      exact kitAny_of hS r fun t ht => h t (.tail _ ht)
    · rw [List.any_cons, e, Bool.true_or]
theorem pa_tys {X : Cx} (G : Good T n cls N X) : ∀ {tys : List Ty} {ts : List Expr}, tysAre T.xs X.env.scope tys ts = true → ∃ vs : List V, Paired ClsV vs (tys.map (tyVal X.K)) ∧ PA X ts (fun _ H Q => Q vs H) ∧ ts.all plainE = true ∧ ∀ t ∈ tys, TyKn X.K t
  | [], [], _ => ⟨[], .nil, pa_nil, rfl, fun _ h => by cases h⟩
  | t :: ts, e :: es, h => by
    simp only [tysAre, Bool.and_eq_true] at h
    obtain ⟨v, hv, p1, k1⟩ := pe_ty G h.1
    obtain ⟨vs, h2, p2, hp, k2⟩ := pa_tys G h.2
    have hpe := ty_plain h.1
    refine ⟨v :: vs, .cons hv h2, PA.imp (pa_cons p1 p2 (star_plain hpe)) fun σ H Q q => q, by simp [hpe, hp], fun t' ht => ?_⟩
    cases ht with
    | head => exact k1
    | tail _ ht => exact k2 t' ht
  | [], _ :: _, h => by cases h
  | _ :: _, [], h => by cases h

theorem fold_plain2 {y : Expr} {env : PySem.Env} (h : plainE y = true) : ∀ x, foldedSetIterable y env x = pure x := fold_plain h
theorem post_bl {X : Cx} {W : WX} {σ : L2.St} {op : COp} {d e : D} {st : Store} {m : Pl} {H : Hp} {Q : Bool → Hp → Prop} (hS : SimS X.K H m st) (hP : Post X.K cls relB W m H σ Q ((compop op d e st).bind fun d st => match truth st d with
      | some k => .ok k st
      | none => .fault)) : Post X.K cls (relD X.K) W m H σ (fun x H' => ∃ k, x = .bl k ∧ Q k H') (compop op d e st) := by
  cases ec : compop op d e st with
  | ok kd st3 =>
    rw [ec] at hP
    obtain ⟨k, rfl, rfl⟩ := compop_bl ec
    intro m' v H' x s' r
    cases r
    exact ⟨k, rfl, hP m' k H' x s' rfl⟩
  | exc c s => rw [ec] at hP; exact hP
  | fault => rw [ec] at hP; exact hP
theorem tysAre_len {xs : List Nat} {sc : Scope} : ∀ {tys : List Ty} {ts : List Expr}, tysAre xs sc tys ts = true → tys.length = ts.length
  | [], [], _ => rfl
  | _ :: ts, _ :: es, h => by
    simp only [tysAre, Bool.and_eq_true] at h
    simp [tysAre_len h.2]
  | [], _ :: _, h => by cases h
  | _ :: _, [], h => by cases h
theorem Paired.map2 {α β γ : Type} {R : β → γ → Prop} {f : α → β} {g : α → γ} (h : ∀ a, R (f a) (g a)) : ∀ {l : List α}, PySem.Paired R (l.map f) (l.map g)
  | [] => .nil
  | a :: l => .cons (h a) (Paired.map2 h)
end
end Mi
/-! MiJ: a checked expression's run is its term's meaning, kind by kind. -/
namespace Mi
open PySem PySem.Spec L2
/-- what holds of each checked term -/
structure Ok (T : Tab) (n : Nat) (cls : Nat → Value) (N : List Str) (ir : E) : Prop where
  pE : ∀ {X : Cx} {W : WX} (G : Good T n cls N X) (tk : Takes X W) (e : Expr), chkE T N X.env.scope ir e = true → PE X e (tE X.K cls W (ev (callN T.T n) ir))
  pT : ∀ {X : Cx} {W : WX} (G : Good T n cls N X) (tk : Takes X W) (e : Expr), chkE T N X.env.scope ir e = true → PT X e (tT X.K cls W fun ρ st => asBool (ev (callN T.T n) ir ρ st))
  pI : ∀ {X : Cx} {W : WX} (G : Good T n cls N X) (tk : Takes X W) {tg : Expr} {one : Bool} (ht : one = false → ∃ es k p, tg = .Tuple es k p) (e : Expr), chkI T N X.env.scope one ir e = true → PI X tg e (tW X.K cls W (evI (callN T.T n) ir)) ∧ plainE e = true
section
variable {T : Tab} {n : Nat} {cls : Nat → Value} {N : List Str}
theorem oks_pa : ∀ {es : List E} (h : ∀ e ∈ es, Ok T n cls N e) {X : Cx} {W : WX} (G : Good T n cls N X) (tk : Takes X W) (as : List Expr), chkEs T N X.env.scope es as = true → PA X as (tL X.K cls W (evs (callN T.T n) es))
  | [], _, X, W, G, tk, [], h => by
    refine PA.imp pa_nil fun σ H Q q => ?_
    obtain ⟨m, ρ, st, hE, hS, hP⟩ := q
    unfold evs at hP
    exact hP.here hS .nil
  | [], _, X, W, G, tk, _ :: _, h => by unfold chkEs at h; cases h
  | _ :: _, _, X, W, G, tk, [], h => by unfold chkEs at h; cases h
  | e :: es, I, X, W, G, tk, a :: as, h => by
    unfold chkEs at h
    simp only [Bool.and_eq_true] at h
    refine PA.imp (pa_cons ((I e (.head _)).pE G tk a h.1.2) (oks_pa (fun e h => I e (.tail _ h)) G tk as h.2) (star_plain h.1.1)) fun σ H Q q => tA_cons ?_
    unfold evs at q
    exact q
theorem okE_var {i : Nat} {X : Cx} {W : WX} (G : Good T n cls N X) (tk : Takes X W) (e : Expr) (h : chkE T N X.env.scope (.var i) e = true) : PE X e (tE X.K cls W (ev (callN T.T n) (.var i))) := by
  unfold chkE at h
  split at h
  · next x p =>
    simp only [Bool.and_eq_true, isName, decide_eq_true_eq] at h
    obtain ⟨v1, v2, v3⟩ := visB_vis h.2
    refine PE.imp (pe_var (i := i) (by rw [G.nm]; exact h.1) v1 v2 v3) fun σ H Q q => ?_
    obtain ⟨m, ρ, st, hE, hS, hP⟩ := q
    unfold ev at hP
    split at hP
    · next d hd =>
      obtain ⟨v, hv, r⟩ := hE.get i d hd
      exact ⟨v, hv, hP.here hS r⟩
    · exact False.elim hP
  · cases h
theorem okE_cst {d : D} {X : Cx} {W : WX} (G : Good T n cls N X) (tk : Takes X W) (e : Expr) (h : chkE T N X.env.scope (.cst d) e = true) : PE X e (tE X.K cls W (ev (callN T.T n) (.cst d))) := by
  unfold chkE at h
  split at h
  · next c j p =>
    obtain ⟨h1, h2⟩ := constIs_pe (X := X) (j := j) (pos := p) h
    refine PE.imp h1 fun σ H Q q => ?_
    obtain ⟨m, ρ, st, hE, hS, hP⟩ := q
    unfold ev at hP
    exact hP.here hS (h2 _ _ _)
  · cases h
theorem okE_glo {y : Str} {d : D} {X : Cx} {W : WX} (G : Good T n cls N X) (tk : Takes X W) (e : Expr) (h : chkE T N X.env.scope (.glo y d) e = true) : PE X e (tE X.K cls W (ev (callN T.T n) (.glo y d))) := by
  unfold chkE at h
  split at h
  · next x p =>
    simp only [Bool.and_eq_true, beq_iff_eq, List.any_eq_true] at h
    obtain ⟨⟨rfl, hg⟩, ⟨z, dz⟩, hm, hz, hd⟩ := h
    simp only at hz hd
    subst hz
    cases deq_eq hd
    obtain ⟨g1, g2, g3⟩ := gloB_glo hg
    obtain ⟨v, u, hu, ru, rd⟩ := G.gls _ hm
    refine PE.imp (pe_glob g1 hu ru g2) fun σ H Q q => ?_
    obtain ⟨m, ρ, st, hE, hS, hP⟩ := q
    unfold ev at hP
    exact hP.here hS (rd H m st hS)
  · cases h
theorem okE_tup {es : List E} (Ies : ∀ e ∈ es, Ok T n cls N e) {X : Cx} {W : WX} (G : Good T n cls N X) (tk : Takes X W) (e : Expr) (h : chkE T N X.env.scope (.tup es) e = true) : PE X e (tE X.K cls W (ev (callN T.T n) (.tup es))) := by
  unfold chkE at h
  split at h
  · next as k p =>
    refine PE.imp (pe_tupN ((oks_pa Ies) G tk as h)) fun σ H Q q => ?_
    obtain ⟨m, ρ, st, hE, hS, hP⟩ := q
    unfold ev at hP
    refine tG.of hE hS hP fun ds st1 m1 vs H1 _ _ hE1 hS1 r1 hP1 => ?_
    split at hP1
    · next hz => exact ⟨by rw [← r1.length]; exact hz, hP1.tupleN hS1 r1⟩
    · exact False.elim hP1
  · cases h
theorem okE_lst {fz : Bool} {es : List E} (Ies : ∀ e ∈ es, Ok T n cls N e) {X : Cx} {W : WX} (G : Good T n cls N X) (tk : Takes X W) (e : Expr) (h : chkE T N X.env.scope (.lst fz es) e = true) : PE X e (tE X.K cls W (ev (callN T.T n) (.lst fz es))) := by
  unfold chkE at h
  split at h
  · next as p =>
    refine PE.imp (pe_lst ((oks_pa Ies) G tk as h)) fun σ H Q q => ?_
    obtain ⟨m, ρ, st, hE, hS, hP⟩ := q
    unfold ev at hP
    exact tG.of hE hS hP fun ds st1 m1 vs H1 _ _ hE1 hS1 r1 hP1 => hP1.made hS1 r1
  · cases h
theorem okE_bin {op : BOp} {fz : Bool} {a : E} {b : E} (Ia : Ok T n cls N a) (Ib : Ok T n cls N b) {X : Cx} {W : WX} (G : Good T n cls N X) (tk : Takes X W) (e : Expr) (h : chkE T N X.env.scope (.bin op fz a b) e = true) : PE X e (tE X.K cls W (ev (callN T.T n) (.bin op fz a b))) := by
  unfold chkE at h
  split at h
  · next x o y p =>
    simp only [Bool.and_eq_true, decide_eq_true_eq] at h
    refine PE.imp (pe_op (opB (op := op) (fz := fz) (cls := cls) (o := o) (by rw [h.1.1]; cases op <;> rfl)) (Ia.pE G tk x h.1.2) (Ib.pE G tk y h.2)) fun σ H Q q => tE_op ?_
    unfold ev at q
    exact q
  · cases h
theorem okE_neg {a : E} (Ia : Ok T n cls N a) {X : Cx} {W : WX} (G : Good T n cls N X) (tk : Takes X W) (e : Expr) (h : chkE T N X.env.scope (.neg a) e = true) : PE X e (tE X.K cls W (ev (callN T.T n) (.neg a))) := by
  unfold chkE at h
  split at h
  · next x p =>
    refine PE.imp (pe_un un_neg (Ia.pE G tk x h)) fun σ H Q q => ?_
    obtain ⟨m, ρ, st, hE, hS, hP⟩ := q
    unfold ev at hP
    refine tG.of hE hS hP fun d st1 m1 v H1 _ _ hE1 hS1 r1 hP1 => ?_
    split at hP1
    · next i ee => cases r1; exact ⟨i, rfl, hP1.here hS1 (.int _)⟩
    · exact False.elim hP1
  · cases h
theorem okE_cmp {op : COp} {a : E} {b : E} (Ia : Ok T n cls N a) (Ib : Ok T n cls N b) {X : Cx} {W : WX} (G : Good T n cls N X) (tk : Takes X W) (e : Expr) (h : chkE T N X.env.scope (.cmp op a b) e = true) : PE X e (tE X.K cls W (ev (callN T.T n) (.cmp op a b))) := by
  unfold chkE at h
  split at h
  · next x o y p =>
    simp only [Bool.and_eq_true, decide_eq_true_eq] at h
    obtain ⟨⟨⟨rfl, h1⟩, h2⟩, h3⟩ := h
    refine PE.imp (pe_cmpR (opC (op := op) (cls := cls) G.units) (Ia.pE G tk x h1) (Ib.pE G tk y h2) (marks_plain h3)) fun σ H Q q => tE_op ?_
    unfold ev at q
    exact q
  · cases h
theorem okE_chn {o : COp} {p : COp} {a : E} {b : E} {c : E} (Ia : Ok T n cls N a) (Ib : Ok T n cls N b) (Ic : Ok T n cls N c) {X : Cx} {W : WX} (G : Good T n cls N X) (tk : Takes X W) (e : Expr) (h : chkE T N X.env.scope (.chn o p a b c) e = true) : PE X e (tE X.K cls W (ev (callN T.T n) (.chn o p a b c))) := by
  unfold chkE at h
  split at h
  · next x o' p' y z ps =>
    simp only [Bool.and_eq_true, decide_eq_true_eq] at h
    obtain ⟨⟨⟨⟨⟨⟨rfl, rfl⟩, h1⟩, h2⟩, h3⟩, h4⟩, h5⟩ := h
    refine PE.imp (pe_chain (opC (op := o) (cls := cls) G.units) (opC (op := p) (cls := cls) G.units) (Ia.pE G tk x h1) (Ib.pE G tk y h2) (Ic.pE G tk z h3) (marks_plain h5)) fun σ H Q q => ?_
    obtain ⟨m, ρ, st, hE, hS, hP⟩ := q
    unfold ev at hP
    refine tG.of hE hS hP fun d st1 m1 v H1 _ _ hE1 hS1 r1 hP1 => ?_
    refine tG.of hE1 hS1 hP1 fun e st2 m2 w H2 _ x2 hE2 hS2 r2 hP2 => ?_
    refine ⟨W, σ, m2, st2, d, e, hS2, r1.mono hS1.cells x2, r2, ?_⟩
    cases ec : compop o d e st2 with
    | ok kd st3 =>
      rw [ec] at hP2
      simp only [R.bind_ok] at hP2
      obtain ⟨k, rfl, rfl⟩ := compop_bl ec
      intro m3 z H3 x3 hS3 rz
      cases rz
      refine ⟨k, rfl, ?_⟩
      cases k with
      | true =>
        rw [if_pos rfl]
        refine tG.of (hE2.mono hS2.cells x3) hS3 (Post.shift hP2 x3) fun c' st4 m4 w4 H4 _ x4 hE4 hS4 r4 hP4 => ?_
        exact ⟨W, σ, m4, st4, e, c', hS4, (r2.mono hS2.cells x3).mono hS3.cells x4, r4, hP4⟩
      | false =>
        rw [if_neg Bool.false_ne_true]
        exact (Post.shift hP2 x3).here hS3 (.bl _)
    | exc c s => rw [ec] at hP2; exact hP2
    | fault => rw [ec] at hP2; exact hP2
  · cases h
theorem okE_and {a : E} {b : E} (Ia : Ok T n cls N a) (Ib : Ok T n cls N b) {X : Cx} {W : WX} (G : Good T n cls N X) (tk : Takes X W) (e : Expr) (h : chkE T N X.env.scope (.and a b) e = true) : PE X e (tE X.K cls W (ev (callN T.T n) (.and a b))) := by
  unfold chkE at h
  have fin : ∀ {x : Expr} {r : Expr} {p : Pos} {y : Expr} {rest : List Expr}, PE X x (tE X.K cls W (ev (callN T.T n) a)) → PE X (.BoolOp .And (y :: rest) p) (tE X.K cls W (ev (callN T.T n) b)) →
      PE X (.BoolOp .And (x :: y :: rest) p) (tE X.K cls W (ev (callN T.T n) (.and a b))) := fun {x r p y rest} ha hb => by
    refine PE.imp (pe_andT ha hb) fun σ H Q q => ?_
    obtain ⟨m, ρ, st, hE, hS, hP⟩ := q
    unfold ev at hP
    refine tG.of hE hS hP fun d st1 m1 v H1 _ _ hE1 hS1 r1 hP1 => ?_
    split at hP1
    · next ht => exact ⟨true, truth_ok hS1 r1 ht, ⟨m1, ρ, st1, hE1, hS1, hP1⟩⟩
    · next ht => exact ⟨false, truth_ok hS1 r1 ht, hP1.here hS1 r1⟩
    · exact False.elim hP1
  split at h
  · next x y p =>
    simp only [Bool.and_eq_true] at h
    exact fin (r := x) (Ia.pE G tk x h.1) (pe_last (Ib.pE G tk y h.2))
  · next x y z r p =>
    simp only [Bool.and_eq_true] at h
    exact fin (r := x) (Ia.pE G tk x h.1) (Ib.pE G tk _ h.2)
  · cases h
theorem okE_or {a : E} {b : E} (Ia : Ok T n cls N a) (Ib : Ok T n cls N b) {X : Cx} {W : WX} (G : Good T n cls N X) (tk : Takes X W) (e : Expr) (h : chkE T N X.env.scope (.or a b) e = true) : PE X e (tE X.K cls W (ev (callN T.T n) (.or a b))) := by
  unfold chkE at h
  have fin : ∀ {x : Expr} {r : Expr} {p : Pos} {y : Expr} {rest : List Expr}, PE X x (tE X.K cls W (ev (callN T.T n) a)) → PE X (.BoolOp .Or (y :: rest) p) (tE X.K cls W (ev (callN T.T n) b)) →
      PE X (.BoolOp .Or (x :: y :: rest) p) (tE X.K cls W (ev (callN T.T n) (.or a b))) := fun {x r p y rest} ha hb => by
    refine PE.imp (pe_orT ha hb) fun σ H Q q => ?_
    obtain ⟨m, ρ, st, hE, hS, hP⟩ := q
    unfold ev at hP
    refine tG.of hE hS hP fun d st1 m1 v H1 _ _ hE1 hS1 r1 hP1 => ?_
    split at hP1
    · next ht => exact ⟨true, truth_ok hS1 r1 ht, hP1.here hS1 r1⟩
    · next ht => exact ⟨false, truth_ok hS1 r1 ht, ⟨m1, ρ, st1, hE1, hS1, hP1⟩⟩
    · exact False.elim hP1
  split at h
  · next x y p =>
    simp only [Bool.and_eq_true] at h
    exact fin (r := x) (Ia.pE G tk x h.1) (pe_last (Ib.pE G tk y h.2))
  · next x y z r p =>
    simp only [Bool.and_eq_true] at h
    exact fin (r := x) (Ia.pE G tk x h.1) (Ib.pE G tk _ h.2)
  · cases h
theorem okE_not {a : E} (Ia : Ok T n cls N a) {X : Cx} {W : WX} (G : Good T n cls N X) (tk : Takes X W) (e : Expr) (h : chkE T N X.env.scope (.not a) e = true) : PE X e (tE X.K cls W (ev (callN T.T n) (.not a))) := by
  unfold chkE at h
  split at h
  · next x p =>
    refine PE.imp (pe_notT (Ia.pE G tk x h)) fun σ H Q q => ?_
    obtain ⟨m, ρ, st, hE, hS, hP⟩ := q
    unfold ev asBool at hP
    rw [R.bind_assoc] at hP
    refine tG.of hE hS hP fun d st1 m1 v H1 _ _ hE1 hS1 r1 hP1 => ?_
    cases ht : truth st1 d with
    | none => rw [ht] at hP1; exact False.elim hP1
    | some k =>
      rw [ht] at hP1
      exact ⟨k, truth_ok hS1 r1 ht, hP1.here hS1 (.bl _)⟩
  · cases h
theorem okE_ite {c : E} {a : E} {b : E} (Ic : Ok T n cls N c) (Ia : Ok T n cls N a) (Ib : Ok T n cls N b) {X : Cx} {W : WX} (G : Good T n cls N X) (tk : Takes X W) (e : Expr) (h : chkE T N X.env.scope (.ite c a b) e = true) : PE X e (tE X.K cls W (ev (callN T.T n) (.ite c a b))) := by
  unfold chkE at h
  split at h
  · next z x y p =>
    simp only [Bool.and_eq_true] at h
    refine PE.imp (pe_ifExp (Ic.pT G tk z h.1.1) (Ia.pE G tk x h.1.2) (Ib.pE G tk y h.2)) fun σ H Q q => tE_test ?_
    unfold ev at q
    exact q
  · cases h
theorem okE_call {fz : Bool} {f : Nat} {es : List E} {df : List D} (Ies : ∀ e ∈ es, Ok T n cls N e) {X : Cx} {W : WX} (G : Good T n cls N X) (tk : Takes X W) (e : Expr) (h : chkE T N X.env.scope (.call fz f es df) e = true) : PE X e (tE X.K cls W (ev (callN T.T n) (.call fz f es df))) := by
  unfold chkE at h
  have hh := (hot_and h).1
  replace h := (hot_and h).2
  split at h
  · next x p as pos =>
    split at h
    · next fn hfn =>
      simp only [Bool.and_eq_true, beq_iff_eq] at h
      obtain ⟨⟨⟨hx, hg⟩, hes⟩, hdf⟩ := h
      obtain ⟨g1, g2, g3⟩ := gloB_glo hg
      simp only [dfB, Bool.and_eq_true, decide_eq_true_eq] at hdf
      obtain ⟨⟨_, hat⟩, hle⟩ := hdf
      obtain ⟨fa, fd, ps, F, hm, hk, hb⟩ := G.fns hh f fn hfn
      obtain ⟨ds, hv, hbi⟩ := hb df.length hle
      rw [← atomsEq_eq hat] at hv
      rw [hx] at hm
      have keeps : ∀ ds st d st', callN T.T n f ds st = .ok d st' → Keeps st st'   := fun ds st d st' => callN_keeps
      have q0 : ∀ σ H Q, tE X.K cls W (ev (callN T.T n) (.call fz f es df)) σ H Q → tCallSD (spD X.K cls (callN T.T n f)) (df.map atomV) (WE W) (tL X.K cls W (evs (callN T.T n) es)) σ H Q := fun σ H Q q => by
        obtain ⟨m, ρ, st, hE, hS, hP⟩ := q
        unfold ev at hP
        exact tCall_D keeps (fun K H m => atomsEq_rd hat) ⟨m, ρ, st, hE, hS, hP⟩
      cases as with
      | nil =>
        have hes' : es = [] := by
          have := chkEs_len hes
          simpa using this
        subst hes'
        refine PE.imp (pe_call0G F G.gd (G.room hh) g1 hm hk hbi hv (fun σ => passAt tk σ) g2) fun σ H Q q => ?_
        obtain ⟨m, ρ, st, hE, hS, hP⟩ := q0 σ H Q q
        unfold evs at hP
        exact hP.here hS .nil
      | cons y ys =>
        have hpl := chkEs_plain hes
        simp only [List.all_cons, Bool.and_eq_true] at hpl
        exact PE.imp (pe_callG F G.gd (G.room hh) g1 hm hk hbi hv (fun σ => passAt tk σ) ((oks_pa Ies) G tk _ hes) g2 (star_plain hpl.1) (backTo_any hpl.2)) q0
    · cases h
  · cases h
theorem okE_prm {p : Prm} {fz : Bool} {es : List E} (Ies : ∀ e ∈ es, Ok T n cls N e) {X : Cx} {W : WX} (G : Good T n cls N X) (tk : Takes X W) (e : Expr) (h : chkE T N X.env.scope (.prm p fz es) e = true) : PE X e (tE X.K cls W (ev (callN T.T n) (.prm p fz es))) := by
  unfold chkE at h
  have hh := (hot_and h).1
  replace h := (hot_and h).2
  split at h
  · next x pp a as pos =>
    simp only [Bool.and_eq_true, beq_iff_eq] at h
    obtain ⟨⟨⟨hx, hg⟩, hp⟩, hes⟩ := h
    obtain ⟨g1, g2, g3⟩ := gloB_glo hg
    obtain ⟨v, hv⟩ := Option.isSome_iff_exists.mp hp
    have hpl := chkEs_plain hes
    simp only [List.all_cons, Bool.and_eq_true] at hpl
    subst hx
    have q0 : ∀ σ H Q, tE X.K cls W (ev (callN T.T n) (.prm p fz es)) σ H Q → tCB (rP X.K cls (prim p fz)) (tL X.K cls W (evs (callN T.T n) es)) σ H Q := fun σ H Q q => by
      obtain ⟨m, ρ, st, hE, hS, hP⟩ := q
      unfold ev at hP
      exact tOp_callTy ⟨m, ρ, st, hE, hS, hP⟩
    rcases prm_kind p v hv with ⟨id, rfl⟩ | ⟨t, rfl⟩
    · exact PE.imp (pe_callB (prmD G.units G.gd (G.calm hh) hv) g1 (G.mg _ (prm_mem p)) (prm_boot p _ hv) ((oks_pa Ies) G tk _ hes) g3 g2 (star_plain hpl.1) (backTo_any hpl.2)) q0
    · exact PE.imp (pe_callTy (prmD G.units G.gd (G.calm hh) hv) g1 (G.mg _ (prm_mem p)) (prm_boot p _ hv) ((oks_pa Ies) G tk _ hes) g3 g2 (star_plain hpl.1) (backTo_any hpl.2)) q0
  · cases h
theorem okE_isa {a : E} {tys : List Ty} (Ia : Ok T n cls N a) {X : Cx} {W : WX} (G : Good T n cls N X) (tk : Takes X W) (e : Expr) (h : chkE T N X.env.scope (.isa a tys) e = true) : PE X e (tE X.K cls W (ev (callN T.T n) (.isa a tys))) := by
  unfold chkE at h
  split at h
  · next x p y ts k p2 pos =>
    simp only [Bool.and_eq_true, beq_iff_eq] at h
    obtain ⟨⟨⟨⟨⟨rfl, hg⟩, hy⟩, hts⟩, hpy⟩, h10⟩ := h
    have h10 := of_decide_eq_true h10
    obtain ⟨g1, g2, g3⟩ := gloB_glo hg
    obtain ⟨ws, h2, p3, hp, kn⟩ := pa_tys G hts
    refine PE.imp (pe_callB call_isEs g1 (G.mg "isinstance") (by decide +kernel) (pa_cons (Ia.pE G tk y hy) (pa_cons (pe_tup p3) pa_nil) (star_plain hpy)) g3 g2 (star_plain hpy) (by rfl)) fun σ H Q q => ?_
    obtain ⟨m, ρ, st, hE, hS, hP⟩ := q
    unfold ev at hP
    refine tG.of hE hS hP fun d st1 m1 v H1 _ _ hE1 hS1 r1 hP1 => ?_
    refine ⟨?_, fun tp htp => ?_⟩
    · have e1 : ws.length = tys.length := by have := Paired.length h2; simpa using this
      have e2 : tys.length = ts.length := tysAre_len hts
      have := sizeLine_eq
      omega
    · have x1 : Ext H1 (upd H1 tp (.tup ws)) m1 m1 := Ext.laid hS1 htp
      exact ⟨v, tp, ws, tyOf X.K st1 d, tys.map (tyVal X.K), _, rfl, upd_same, h2, (ty_ok (hS1.laid htp) (r1.mono hS1.cells x1)).1, kitAny_of hS1 r1 kn, hP1 m1 _ _ x1 (hS1.laid htp) (.bl _)⟩
  · next x p y t pos hne =>
    simp only [Bool.and_eq_true, beq_iff_eq] at h
    obtain ⟨⟨⟨⟨rfl, hg⟩, hy⟩, hts⟩, hpy⟩ := h
    obtain ⟨g1, g2, g3⟩ := gloB_glo hg
    match tys, hts with
    | [ty], hts =>
      simp only [tysAre, Bool.and_true] at hts
      obtain ⟨w, cw, p1, kn⟩ := pe_ty G hts
      have hpt := ty_plain hts
      refine PE.imp (pe_callB call_isE1 g1 (G.mg "isinstance") (by decide +kernel) (pa_cons (Ia.pE G tk y hy) (pa_cons p1 pa_nil (star_plain hpt)) (star_plain hpy)) g3 g2 (star_plain hpy) (backTo_any (by simp [hpt]))) fun σ H Q q => ?_
      obtain ⟨m, ρ, st, hE, hS, hP⟩ := q
      unfold ev at hP
      refine tG.of hE hS hP fun d st1 m1 v H1 _ _ hE1 hS1 r1 hP1 => ?_
      refine ⟨v, w, tyOf X.K st1 d, _, _, rfl, cw, (ty_ok hS1 r1).1, kit_one hS1 r1 kn, ?_⟩
      have q := hP1.here hS1 (.bl _)
      simpa using q
    | [], hts => cases hts
    | _ :: _ :: _, hts => simp [tysAre] at hts
  · cases h
theorem okE_idx {a : E} {b : E} (Ia : Ok T n cls N a) (Ib : Ok T n cls N b) {X : Cx} {W : WX} (G : Good T n cls N X) (tk : Takes X W) (e : Expr) (h : chkE T N X.env.scope (.idx a b) e = true) : PE X e (tE X.K cls W (ev (callN T.T n) (.idx a b))) := by
  unfold chkE at h
  split at h
  · next x y p =>
    simp only [Bool.and_eq_true] at h
    refine PE.imp (pe_ix (ixD (cls := cls) (by have := G.units; omega)) (Ia.pE G tk x h.1.2) (Ib.pE G tk y h.2) (ix_plain h.1.1)) fun σ H Q q => tE_op ?_
    unfold ev at q
    exact q
  · cases h
theorem inter_len : ∀ {ks : List (Option Expr)} {vs : List Expr}, ks.length = vs.length → ks.all (·.isSome) = true → (inter ks vs).length = 2 * ks.length
  | [], [], _, _ => rfl
  | some k :: ks, v :: vs, h, q => by
    simp only [List.length_cons, Nat.add_right_cancel_iff] at h
    simp only [List.all_cons, Bool.and_eq_true] at q
    simp only [inter, List.length_cons, inter_len h q.2]; omega
  | none :: _, _, _, q => by simp at q
  | [], _ :: _, h, _ => by simp at h
  | _ :: _, [], h, _ => by simp at h
def trsOf (K : PySem.W.Frag) (cls : Nat → Value) (W : WX) (cf : Nat → List D → Store → R D) : List E → List (TE × TE)
  | a :: b :: es => (tE K cls W (ev cf a), tE K cls W (ev cf b)) :: trsOf K cls W cf es
  | _ => []
theorem oks_pps : ∀ {es : List E} (h : ∀ e ∈ es, Ok T n cls N e) {X : Cx} {W : WX} (G : Good T n cls N X) (tk : Takes X W) (pos : Pos) (ks : List (Option Expr)) (vs : List Expr), ks.length = vs.length → ks.all (·.isSome) = true → chkEs T N X.env.scope es (inter ks vs) = true → PPs X pos ks vs (trsOf X.K cls W (callN T.T n) es)
  | es, I, X, W, G, tk, pos, [], [], _, _, h => by
    cases es with
    | nil => exact pps_nil
    | cons e es => simp [inter, chkEs] at h
  | es, I, X, W, G, tk, pos, some k :: ks, v :: vs, hl, ha, h => by
    simp only [List.length_cons, Nat.add_right_cancel_iff] at hl
    simp only [List.all_cons, Bool.and_eq_true] at ha
    match es, I, h with
    | [], _, h => simp [inter, chkEs] at h
    | [a], _, h => simp [inter, chkEs] at h
    | a :: b :: es, I, h =>
      simp only [inter, chkEs, Bool.and_eq_true] at h
      exact pps_cons ((I a (.head _)).pE G tk k h.1.2) ((I b (.tail _ (.head _))).pE G tk v h.2.1.2) (oks_pps (fun e h => I e (.tail _ (.tail _ h))) G tk pos ks vs hl ha.2 h.2.2)
  | _, _, _, _, _, _, _, none :: _, _, _, q, _ => by simp at q
  | _, _, _, _, _, _, _, [], _ :: _, h, _, _ => by simp at h
  | _, _, _, _, _, _, _, _ :: _, [], h, _, _ => by simp at h
theorem tPairs_of {K : PySem.W.Frag} {W : WX} {cf : Nat → List D → Store → R D} : ∀ {es : List E} {σ : L2.St} {H : Hp} {Q : List V → Hp → Prop}, es.length % 2 = 0 → tL K cls W (evs cf es) σ H Q → tPairs (trsOf K cls W cf es) σ H fun ps H' => Q ((ps.map fun p => [p.1, p.2]).flatten) H'
  | [], σ, H, Q, _, h => by
    obtain ⟨m, ρ, st, hE, hS, hP⟩ := h
    unfold evs at hP
    exact hP.here hS .nil
  | [a], _, _, _, hl, _ => by simp at hl
  | a :: b :: es, σ, H, Q, hl, h => by
    have h1 : tL K cls W (fun ρ st => (ev cf a ρ st).bind fun d st => (evs cf (b :: es) ρ st).bind fun ds st => .ok (d :: ds) st) σ H Q := by
      obtain ⟨m, ρ, st, hE, hS, hP⟩ := h
      unfold evs at hP
      exact ⟨m, ρ, st, hE, hS, hP⟩
    obtain ⟨m, ρ, st, hE, hS, hP⟩ := h1
    refine tG.of hE hS hP fun d st1 m1 v H1 _ _ hE1 hS1 r1 hP1 => ?_
    unfold evs at hP1
    simp only [trsOf]
    have hP1' : Post K cls (relDs K) W m1 H1 σ Q ((ev cf b ρ st1).bind fun e st2 => (evs cf es ρ st2).bind fun ds st => .ok (d :: e :: ds) st) := by
      cases e1 : ev cf b ρ st1 with
      | ok e st2 =>
        rw [e1] at hP1
        simp only [R.bind_ok] at hP1 ⊢
        cases e2 : evs cf es ρ st2 with
        | ok ds st3 => rw [e2] at hP1; exact hP1
        | exc c s => rw [e2] at hP1; exact hP1
        | fault => rw [e2] at hP1; exact hP1
      | exc c s => rw [e1] at hP1; exact hP1
      | fault => rw [e1] at hP1; exact hP1
    refine tG.of hE1 hS1 hP1' fun e st2 m2 w H2 _ x2 hE2 hS2 r2 hP2 => ?_
    have q : tL K cls W (evs cf es) σ H2 fun us H' => Q (v :: w :: us) H' :=
      tG.of hE2 hS2 hP2 fun ds st3 m3 us H3 _ x3 hE3 hS3 r3 hP3 => hP3.here hS3 (.cons ((r1.mono hS1.cells x2).mono hS2.cells x3) (.cons (r2.mono hS2.cells x3) r3))
    exact tPairs_of (by simp only [List.length_cons] at hl; omega) q
theorem chkEs_len2 {sc : Scope} : ∀ {es : List E} {as : List Expr}, chkEs T N sc es as = true → es.length = as.length
  | [], [], _ => rfl
  | e :: es, a :: as, h => by
    simp only [chkEs, Bool.and_eq_true] at h
    rw [List.length_cons, List.length_cons, chkEs_len2 h.2]
  | [], _ :: _, h => by simp [chkEs] at h
  | _ :: _, [], h => by simp [chkEs] at h
/-- the pairs, as they come -/
theorem pairs_kv : ∀ {ps : List (V × V)} {ws : List (Key × V)}, (ps.map fun p => [p.1, p.2]).flatten = (ws.map fun kv => [kV kv.1, kv.2]).flatten → ps = ws.map fun kv => (kV kv.1, kv.2)
  | [], [], _ => rfl
  | p :: ps, w :: ws, h => by
    simp only [List.map_cons, List.flatten_cons, List.cons_append, List.nil_append, List.cons.injEq] at h
    rw [List.map_cons, pairs_kv h.2.2, ← h.1, ← h.2.1]
  | [], _ :: _, h => by simp at h
  | _ :: _, [], h => by simp at h
theorem okE_dic {es : List E} (Ies : ∀ e ∈ es, Ok T n cls N e) {X : Cx} {W : WX} (G : Good T n cls N X) (tk : Takes X W) (e : Expr) (h : chkE T N X.env.scope (.dic es) e = true) : PE X e (tE X.K cls W (ev (callN T.T n) (.dic es))) := by
  unfold chkE at h
  split at h
  · next ks vs pos =>
    simp only [Bool.and_eq_true, decide_eq_true_eq] at h
    obtain ⟨⟨⟨ha, hl⟩, h15⟩, hes⟩ := h
    have hlen := chkEs_len2 hes
    rw [inter_len hl ha] at hlen
    cases ks with
    | nil =>
      cases vs with
      | cons _ _ => simp at hl
      | nil =>
        cases es with
        | cons _ _ => simp at hlen
        | nil =>
          refine PE.imp pe_dnewK fun σ H Q q => ?_
          obtain ⟨m, ρ, st, hE, hS, hP⟩ := q
          intro p hp
          unfold ev evs at hP
          refine hP (m.push p) _ _ (Ext.newcell hS hp) (hS.newcellC hp fun x => ⟨[], upd_same, rfl, .nil⟩) (.loc ?_)
          rw [← hS.len]; simp [Pl.push]
    | cons k0 ks =>
      have pp := oks_pps Ies G tk pos (k0 :: ks) vs hl ha hes
      refine PE.imp (pe_disp pp ha hl (by simp) h15) fun σ H Q q => ?_
      obtain ⟨m, ρ, st, hE, hS, hP⟩ := q
      intro p hp
      unfold ev at hP
      have x0 : Ext H (upd H p (.dK [])) m m := Ext.laid hS hp
      have hn := (hS.notin' hp)
      have q : tL X.K cls W (evs (callN T.T n) es) σ (upd H p (.dK [])) fun us H2 => H2 p = some (.dK []) ∧ ∃ kvs : List (Key × V), us = (kvs.map fun kv => [kV kv.1, kv.2]).flatten ∧ kvs.length ≤ 15 ∧ Q (.ref p) (upd H2 p (.dK (mergeK [] kvs))) := by
        refine ⟨m, ρ, st, hE.mono hS.cells x0, hS.laid hp, ?_⟩
        cases er : evs (callN T.T n) es ρ st with
        | ok ds st1 =>
          rw [er] at hP
          intro m1 us H1 x1 hS1 r1
          simp only [R.bind_ok, madeD] at hP
          split at hP
          · next kvs e1 =>
            obtain ⟨ws, kr, rfl⟩ := pair_rd r1 e1
            split at hP
            · next hz =>
              obtain ⟨y1, y2, y3, y4⟩ := dict_shown hS hp x1 hS1 (KVR.nil.merge kr)
              exact ⟨y1, ws, rfl, by rw [kr.length]; exact hz, hP _ _ _ y2 y3 y4⟩
            · exact False.elim hP
          · exact False.elim hP
        | exc c s =>
          rw [er] at hP
          exact fun m' H' x s' => hP m' H' (x0.trans x) s'
        | fault => rw [er] at hP; exact hP
      have q2 := tPairs_of (by rw [hlen]; omega) q
      have ee : (fun (ps : List (V × V)) (H' : Hp) => H' p = some (.dK []) ∧ ∃ kvs : List (Key × V), (ps.map fun p => [p.1, p.2]).flatten = (kvs.map fun kv => [kV kv.1, kv.2]).flatten ∧ kvs.length ≤ 15 ∧ Q (.ref p) (upd H' p (.dK (mergeK [] kvs)))) =
          fun ps H2 => H2 p = some (.dK []) ∧ ∃ kvs : List (Key × V), ps = kvs.map (fun kv => (kV kv.1, kv.2)) ∧ kvs.length ≤ 15 ∧ Q (.ref p) (upd H2 p (.dK (mergeK [] kvs))) := by
        funext ps H2
        refine propext ⟨fun ⟨z1, kvs, z2, z3⟩ => ⟨z1, kvs, pairs_kv z2, z3⟩, fun ⟨z1, kvs, z2, z3⟩ => ⟨z1, kvs, ?_, z3⟩⟩
        rw [z2, List.map_map]; rfl
      rw [ee] at q2
      exact q2
  · cases h
theorem pe_lit {X : Cx} {e : Expr} {i : Int} (h : intLit e = some i) : PE X e (tC (.int i)) ∧ plainE e = true := by
  unfold intLit at h
  split at h
  · cases h; exact ⟨pe_int, rfl⟩
  · cases h; exact ⟨PE.imp (pe_un un_neg pe_int) fun σ H Q q => ⟨_, rfl, q⟩, rfl⟩
  · cases h
/-- a pair of numbers as written -/
def tKey (i j : Int) : TE := fun _ H Q => ∀ q, H q = none → Q (.ref q) (upd H q (.tup [.int i, .int j]))
theorem pe_key {X : Cx} {k z : Expr} {i j : Int} {pos : Pos} {c : Nat} (hk : intLit k = some i) (hz : intLit z = some j) : PE X (.Tuple [k, z] c pos) (tKey i j) := by
  obtain ⟨h1, p1⟩ := pe_lit (X := X) hk
  obtain ⟨h2, p2⟩ := pe_lit (X := X) hz
  refine PE.imp (pe_tup (pa_cons h1 (pa_cons h2 pa_nil (star_plain p2)) (star_plain p1))) fun σ H Q q => ?_
  exact ⟨by rw [sizeLine_eq]; simp, q⟩
theorem okE_dit {i j : Int} {a : E} (Ia : Ok T n cls N a) {X : Cx} {W : WX} (G : Good T n cls N X) (tk : Takes X W) (e : Expr) (h : chkE T N X.env.scope (.dit i j a) e = true) : PE X e (tE X.K cls W (ev (callN T.T n) (.dit i j a))) := by
  unfold chkE at h
  split at h
  · next k z c' v pos =>
    simp only [Bool.and_eq_true, beq_iff_eq] at h
    obtain ⟨⟨hk, hz⟩, ha⟩ := h
    refine PE.imp (pe_dispT (by have := G.units; omega) (pps_cons (pe_key hk hz) (Ia.pE G tk v ha) pps_nil) rfl rfl (by simp) (by simp)) fun σ H Q q => ?_
    obtain ⟨m, ρ, st, hE, hS, hP⟩ := q
    intro p hp
    unfold ev at hP
    show ∀ q, upd H p (.dK []) q = none → _
    intro q hq
    have x0 : Ext H (upd H p (.dK [])) m m := Ext.laid hS hp
    have hS0 := hS.laid (o := .dK []) hp
    have x1 : Ext (upd H p (.dK [])) (upd (upd H p (.dK [])) q (.tup [.int i, .int j])) m m := Ext.laid hS0 hq
    refine ⟨m, ρ, st, (hE.mono hS.cells x0).mono hS0.cells x1, hS0.laid hq, ?_⟩
    cases er : ev (callN T.T n) a ρ st with
    | ok d st1 =>
      rw [er] at hP
      intro m1 y H1 x2 hS1 r1
      simp only [R.bind_ok] at hP
      have eq1 : H1 q = some (.tup [.int i, .int j]) := x2.keep q _ upd_same (hS0.notin' hq).1
      have kr : KVR X.K H1 m1 [([Sum.inl i, Sum.inl j], d)] [(([Sum.inl i, Sum.inl j] : List Key), y)] := KVR.nil.cons r1
      obtain ⟨y1, y2, y3, y4⟩ := dict_shownT hS hp (x1.trans x2) hS1 (by simp) kr
      refine ⟨y1, [([Sum.inl i, Sum.inl j], q, y)], rfl, fun z hz => ?_, by simp, ?_⟩
      · simp at hz; subst hz; exact eq1
      · exact hP _ _ _ y2 y3 y4
    | exc c s =>
      rw [er] at hP
      exact fun m' H' x s' => hP m' H' ((x0.trans x1).trans x) s'
    | fault => rw [er] at hP; exact hP
  · cases h
theorem tI_sq {K : PySem.W.Frag} {H : Hp} {m : Pl} {ns : List Int} {a : Addr} (r : RD K H m (tI ns) (.ref a)) : SqT K H a (ns.map V.int) := by
  obtain ⟨b, vs, e, h, q⟩ := rd_tup r
  cases e
  have : ∀ {ns : List Int} {vs : List V}, RDs K H m (ns.map D.int) vs → vs = ns.map V.int := by
    intro ns
    induction ns with
    | nil => intro vs q; cases q; rfl
    | cons n ns ih =>
      intro vs q
      cases q with
      | cons r1 q => cases r1; rw [ih q]; rfl
  rw [this q] at h
  exact h
theorem intsD_eq : ∀ {ds : List D} {ns : List Int}, intsD ds = some ns → ds = ns.map D.int
  | [], _, h => by cases h; rfl
  | d :: ds, ns, h => by
    cases d with
    | int i =>
      simp only [intsD, Option.map_eq_some_iff] at h
      obtain ⟨ms, h, rfl⟩ := h
      rw [intsD_eq h]; rfl
    | _ => cases h
theorem tupsD_rd {K : PySem.W.Frag} {H : Hp} {m : Pl} : ∀ {xs : List D} {vs : List V} {zs : List (List Int)}, RDs K H m xs vs → tupsD xs = some zs → ∃ ks : AL, vs = ks.map (fun q => V.ref q.1) ∧ zs = ks.map (·.2) ∧ ∀ q ∈ ks, RD K H m (tI q.2) (.ref q.1)
  | [], _, _, .nil, h => by cases h; exact ⟨[], rfl, rfl, fun _ h => by cases h⟩
  | d :: xs, _, zs, .cons r t, h => by
    unfold tupsD at h
    split at h
    · next e => cases e
    · next ds r2 e =>
      cases e
      split at h
      · next n q e1 e2 =>
        cases h
        obtain ⟨ks, rfl, rfl, hk⟩ := tupsD_rd t e2
        obtain ⟨a, us, rfl, ha, ra⟩ := rd_tup r
        cases intsD_eq e1
        refine ⟨(a, n) :: ks, rfl, rfl, fun q hq => ?_⟩
        cases hq with
        | head => exact r
        | tail _ hq => exact hk q hq
      · cases h
    · cases h
theorem rds_map {K : PySem.W.Frag} {H : Hp} {m : Pl} {α : Type} {f : α → D} {g : α → V} : ∀ {l : List α}, (∀ x ∈ l, RD K H m (f x) (g x)) → RDs K H m (l.map f) (l.map g)
  | [], _ => .nil
  | x :: l, h => .cons (h x (.head _)) (rds_map fun y hy => h y (.tail _ hy))
theorem okE_srs {fz : Bool} {a : E} (Ia : Ok T n cls N a) {X : Cx} {W : WX} (G : Good T n cls N X) (tk : Takes X W) (e : Expr) (h : chkE T N X.env.scope (.srs fz a) e = true) : PE X e (tE X.K cls W (ev (callN T.T n) (.srs fz a))) := by
  unfold chkE at h
  have hh := (hot_and h).1
  replace h := (hot_and h).2
  split at h
  · next x p1 z p2 y p3 p4 =>
    simp only [Bool.and_eq_true, beq_iff_eq] at h
    obtain ⟨⟨⟨⟨⟨rfl, hg⟩, rfl⟩, hz⟩, hy⟩, ha⟩ := h
    obtain ⟨g1, g2, g3⟩ := gloB_glo hg
    obtain ⟨z1, z2, z3⟩ := gloB_glo hz
    refine PE.imp (pe_callB (cr_sorted_X (G.calm hh) G.units) g1 (G.mg "sorted") (by decide +kernel) (pa_cons (pe_callTy (cr_setX (G.calm hh) G.units) z1 (G.mg "set") (by decide +kernel) (pa_cons (Ia.pE G tk y ha) pa_nil (star_plain hy)) z3 z2 (star_plain hy) (by rfl)) pa_nil (star_plain rfl)) g3 g2 (star_plain rfl) (by rfl)) fun σ H Q q => ?_
    obtain ⟨m, ρ, st, hE, hS, hP⟩ := q
    unfold ev at hP
    refine tG.of hE hS hP fun d st1 m1 v H1 _ _ hE1 hS1 r1 hP1 => ?_
    unfold sortedset at hP1
    split at hP1
    · next xs hx =>
      split at hP1
      · next zs hzs =>
        split at hP1
        · next few =>
          obtain ⟨b, vs, rfl, hb, rb⟩ := RD.sq hS1 r1 hx
          have := strsD_rd rb hzs
          subst this
          refine .inl ⟨b, zs, rfl, hb, few, fun p es hp got => .inl ?_⟩
          have x1 : Ext H1 (upd H1 p (SetX X.w p es)) m1 m1 := Ext.laid hS1 hp
          refine ⟨p, es, rfl, upd_same, by have := got.2.2; omega, fun p' ts ws hts hws hp' => ?_⟩
          have e1 : sortD ((once zs).map D.str) = ws.map D.str := by
            rw [← hws]
            exact sort_perm ((once_perm got).trans hts.symm)
          rw [e1] at hP1
          exact ((Post.shift hP1 x1).made (hS1.laid hp) (strs_rd ws)).2 p' hp'
        · exact False.elim hP1
      · split at hP1
        · next zs hzs =>
          split at hP1
          · next few =>
            rw [Bool.and_eq_true, decide_eq_true_eq] at few
            obtain ⟨b, vs, rfl, hb, rb⟩ := RD.sq hS1 r1 hx
            obtain ⟨ks, rfl, rfl, rk⟩ := tupsD_rd rb hzs
            refine .inr ⟨b, ks, rfl, hb, fun q hq => (tI_sq (rk q hq)), by have := few.1; rw [List.length_map] at this; omega, fun p L hp sub all => .inr ?_⟩
            have x1 : Ext H1 (upd H1 p (SetTO X.prog X.w p L)) m1 m1 := Ext.laid hS1 hp
            have hS2 : SimS X.K (upd H1 p (SetTO X.prog X.w p L)) m1 st1 := hS1.laid hp
            have rk2 : ∀ q ∈ ks, RD X.K (upd H1 p (SetTO X.prog X.w p L)) m1 (tI q.2) (.ref q.1) := fun q hq => (rk q hq).mono hS1.cells x1
            refine ⟨p, L, rfl, upd_same, fun q hq => tI_sq (rk2 q (sub q hq)), fun nd => ?_⟩
            have pm : (L.map (·.2)).Perm (onceI (ks.map (·.2))) := onceI_perm (fun y hy => by
              obtain ⟨q, hq, rfl⟩ := List.mem_map.mp hy
              exact List.mem_map.mpr ⟨q, sub q hq, rfl⟩) (fun z hz => by
              obtain ⟨q, hq, rfl⟩ := List.mem_map.mp hz
              exact all q hq) nd
            have e0 : (L.map fun q => tI q.2) = (L.map (·.2)).map tI := by rw [List.map_map]; rfl
            refine ⟨by rw [e0]; exact sortOk_perm (pm.map tI) few.2, fun p' out sub2 e hp' => ?_⟩
            rw [e0, sort_permI pm] at e
            rw [← e] at hP1
            have ro : RDs X.K (upd H1 p (SetTO X.prog X.w p L)) m1 (out.map fun q => tI q.2) (out.map fun q => V.ref q.1) := rds_map fun q hq => rk2 q (sub q (sub2 q hq))
            exact ((Post.shift hP1 x1).made hS2 ro).2 p' hp'
          · exact False.elim hP1
        · exact False.elim hP1
    · exact False.elim hP1
  · cases h
theorem okE_lns {a : E} (Ia : Ok T n cls N a) {X : Cx} {W : WX} (G : Good T n cls N X) (tk : Takes X W) (e : Expr) (h : chkE T N X.env.scope (.lns a) e = true) : PE X e (tE X.K cls W (ev (callN T.T n) (.lns a))) := by
  unfold chkE at h
  have hh := (hot_and h).1
  replace h := (hot_and h).2
  split at h
  · next x p1 z p2 y p3 p4 =>
    simp only [Bool.and_eq_true, beq_iff_eq] at h
    obtain ⟨⟨⟨⟨⟨rfl, hg⟩, rfl⟩, hz⟩, hy⟩, ha⟩ := h
    obtain ⟨g1, g2, g3⟩ := gloB_glo hg
    obtain ⟨z1, z2, z3⟩ := gloB_glo hz
    refine PE.imp (pe_callB cr_len_X g1 (G.mg "len") (by decide +kernel) (pa_cons (pe_callTy (cr_setX (G.calm hh) G.units) z1 (G.mg "set") (by decide +kernel) (pa_cons (Ia.pE G tk y ha) pa_nil (star_plain hy)) z3 z2 (star_plain hy) (by rfl)) pa_nil (star_plain rfl)) g3 g2 (star_plain rfl) (by rfl)) fun σ H Q q => ?_
    obtain ⟨m, ρ, st, hE, hS, hP⟩ := q
    unfold ev at hP
    refine tG.of hE hS hP fun d st1 m1 v H1 _ _ hE1 hS1 r1 hP1 => ?_
    unfold lenset at hP1
    split at hP1
    · next xs hx =>
      obtain ⟨b, vs, rfl, hb, rb⟩ := RD.sq hS1 r1 hx
      split at hP1
      · next zs hzs =>
        split at hP1
        · next few =>
          have := strsD_rd rb hzs
          subst this
          refine .inl ⟨b, zs, rfl, hb, few, fun p es hp got => .inl ⟨p, es, rfl, upd_same, by have := got.2.2; omega, ?_⟩⟩
          have x1 : Ext H1 (upd H1 p (SetX X.w p es)) m1 m1 := Ext.laid hS1 hp
          have hl : es.size = (once zs).length := by
            have := (once_perm got).length_eq
            simpa [mem] using this.symm
          rw [hl]
          exact hP1 m1 _ _ x1 (hS1.laid hp) (.int _)
        · exact False.elim hP1
      · split at hP1
        · next zs hzs =>
          split at hP1
          · next few =>
            obtain ⟨ks, rfl, rfl, rk⟩ := tupsD_rd rb hzs
            refine .inr ⟨b, ks, rfl, hb, fun q hq => (tI_sq (rk q hq)), by rw [List.length_map] at few; omega, fun p L hp sub all => .inr ⟨p, L, rfl, upd_same, fun nd => ?_⟩⟩
            have x1 : Ext H1 (upd H1 p (SetTO X.prog X.w p L)) m1 m1 := Ext.laid hS1 hp
            have pm : (L.map (·.2)).Perm (onceI (ks.map (·.2))) := onceI_perm (fun y hy => by
              obtain ⟨q, hq, rfl⟩ := List.mem_map.mp hy
              exact List.mem_map.mpr ⟨q, sub q hq, rfl⟩) (fun z hz => by
              obtain ⟨q, hq, rfl⟩ := List.mem_map.mp hz
              exact all q hq) nd
            have hl := pm.length_eq
            rw [List.length_map] at hl
            rw [hl]
            exact hP1 m1 _ _ x1 (hS1.laid hp) (.int _)
          · exact False.elim hP1
        · exact False.elim hP1
    · exact False.elim hP1
  · cases h
theorem base_ok {y : Expr} {nm : Str} {env : PySem.Env} {whole : Sem Value} (h : baseE y = true) : attributeBase y nm env whole = whole := by
  cases y with
  | Call f as kws p =>
    cases f with
    | Name x q =>
      cases as with
      | nil =>
        cases kws with
        | nil => cases h
        | cons _ _ => rfl
      | cons _ _ => rfl
    | _ => rfl
  | _ => rfl
theorem okE_sit {a : E} (Ia : Ok T n cls N a) {X : Cx} {W : WX} (G : Good T n cls N X) (tk : Takes X W) (e : Expr) (h : chkE T N X.env.scope (.sit a) e = true) : PE X e (tE X.K cls W (ev (callN T.T n) (.sit a))) := by
  unfold chkE at h
  have hh := (hot_and h).1
  replace h := (hot_and h).2
  split at h
  · next x p1 y nm ap cp p3 =>
    simp only [Bool.and_eq_true, beq_iff_eq] at h
    obtain ⟨⟨⟨⟨⟨rfl, hg⟩, rfl⟩, h3⟩, h4⟩, h5⟩ := h
    obtain ⟨g1, g2, g3⟩ := gloB_glo hg
    refine PE.imp (pe_callB (cr_sit (G.calm hh) G.units) g1 (G.mg "sorted") (by decide +kernel) (pa_cons (pe_bm0 PySem.F.plainAttrs_dict PySem.F.slot_dict_items PySem.F.type_dict_items mt_itemsK (Ia.pE G tk y h5) (base_ok h3) (by rw [h4]; exact beq_self_eq_true _)) pa_nil (star_plain rfl)) g3 g2 (star_plain rfl) (by rfl)) fun σ H Q q => ?_
    obtain ⟨m, ρ, st, hE, hS, hP⟩ := q
    unfold ev at hP
    refine tG.of hE hS hP fun d st1 m1 v H1 _ _ hE1 hS1 r1 hP1 => ?_
    unfold sortedItems at hP1
    split at hP1
    · next p e1 =>
      split at hP1
      · next ok =>
        have ty := isDc_ty hS1 r1 (by rw [e1]; rfl)
        obtain ⟨b, ws, rfl, rfl, ha, hH, hk, hc2⟩ := dct_ok hS1 r1 e1
        refine ⟨ty, b, ws, rfl, rfl, hH, fun p' hp' => ?_⟩
        have x1 : Ext H1 (upd H1 p' (DX.itemsO p' b)) m1 m1 := Ext.laid hS1 hp'
        have hS2 := hS1.laid (o := DX.itemsO p' b) hp'
        refine ⟨p', b, ws, p.2, m1, rfl, upd_same, by rw [upd_ne (ne_of_none hH hp')]; exact hH, hS2.cells, ⟨hk.1, hk.2.mono hS1.cells x1⟩, ok, fun H2 l vs g hl hH2 rd => ?_⟩
        have x2 : Ext (upd H1 p' (DX.itemsO p' b)) H2 m1 m1 := ⟨fun _ _ h => h, fun _ h h' => absurd h h', fun b o h _ => g b o h, rfl⟩
        exact hP1 m1 (.ref l) H2 (x1.trans x2) (hS2.grow g) (.lst ⟨hS2.notin' hl, .inl hH2⟩ rd)
      · exact False.elim hP1
    · exact False.elim hP1
  · cases h
theorem isDx_ty {K : PySem.W.Frag} {H : Hp} {m : Pl} {st : Store} {d : D} {v : V} (hS : SimS K H m st) (r : RD K H m d v) (h : (dctAt st d).isSome = true ∨ (dttAt st d).isSome = true) : tyV K "dict" v H := isDt_ty hS r (by simpa using h)
theorem intsOf_vs {K : PySem.W.Frag} {H : Hp} {m : Pl} : ∀ {ds : List D} {vs : List V} {ns : List Int}, RDs K H m ds vs → intsOf ds = some ns → vs = ns.map V.int
  | _, _, ns, .nil, h => by unfold intsOf at h; cases h; rfl
  | _, _, ns, .cons (d := d) r t, h => by
    cases r <;> simp only [intsOf, Option.map_eq_some_iff, reduceCtorEq] at h
    obtain ⟨q, hq, rfl⟩ := h
    rw [intsOf_vs t hq]
    rfl
theorem okE_mxv {a : E} (Ia : Ok T n cls N a) {X : Cx} {W : WX} (G : Good T n cls N X) (tk : Takes X W) (e : Expr) (h : chkE T N X.env.scope (.mxv a) e = true) : PE X e (tE X.K cls W (ev (callN T.T n) (.mxv a))) := by
  unfold chkE at h
  have hh := (hot_and h).1
  replace h := (hot_and h).2
  split at h
  · next x p1 y nm ap cp z j p2 p3 p4 =>
    simp only [Bool.and_eq_true, beq_iff_eq] at h
    obtain ⟨⟨⟨⟨⟨⟨rfl, hg⟩, rfl⟩, rfl⟩, h3⟩, h4⟩, h5⟩ := h
    obtain ⟨g1, g2, g3⟩ := gloB_glo hg
    refine PE.imp (pe_callBK (ck_max (G.calm hh)) g1 (G.mg "max") (by decide +kernel) (pa_cons (pe_bm0 PySem.F.plainAttrs_dict PySem.F.slot_dict_values PySem.F.type_dict_values mt_values (Ia.pE G tk y h5) (base_ok h3) (by rw [h4]; exact beq_self_eq_true _)) pa_nil (star_plain rfl)) (pk_cons pe_int pk_nil) g3 g2) fun σ H Q q => ?_
    obtain ⟨m, ρ, st, hE, hS, hP⟩ := q
    unfold ev at hP
    refine tG.of hE hS hP fun d st1 m1 v H1 _ _ hE1 hS1 r1 hP1 => ?_
    unfold maxVals at hP1
    split at hP1
    · next ns e1 =>
      obtain ⟨ds, e2, e3⟩ := Option.bind_eq_some_iff.mp e1
      have key : tyV X.K "dict" v H1 ∧ ∃ b, v = .ref b ∧ ((∃ ws : List (L2.Key × V), H1 b = some (.dK ws) ∧ ws.map (·.2) = ns.map V.int) ∨ ∃ ws : List (List L2.Key × V), H1 b = some (.dT ws) ∧ ws.map (·.2) = ns.map V.int) := by
        unfold valsAt at e2
        split at e2
        · next p e4 =>
          obtain ⟨b, ws, rfl, rfl, ha, hH, hk, hc2⟩ := dct_ok hS1 r1 e4
          cases e2
          exact ⟨isDx_ty hS1 r1 (.inl (by rw [e4]; rfl)), b, rfl, .inl ⟨ws, hH, intsOf_vs hk.2 e3⟩⟩
        · next e4 =>
          obtain ⟨p, e5, rfl⟩ := Option.map_eq_some_iff.mp e2
          obtain ⟨b, ws, rfl, rfl, ha, _, hH, hk, hc2⟩ := dtt_ok hS1 r1 e5
          exact ⟨isDx_ty hS1 r1 (.inr (by rw [e5]; rfl)), b, rfl, .inr ⟨ws, hH, intsOf_vs hk.2 e3⟩⟩
      obtain ⟨ty, b, rfl, hw⟩ := key
      refine ⟨ty, b, rfl, rfl, hw.imp (fun ⟨ws, h, _⟩ => ⟨ws, h⟩) (fun ⟨ws, h, _⟩ => ⟨ws, h⟩), fun p' hp' => ?_⟩
      refine ⟨p', b, ns, rfl, rfl, upd_same, ?_, hP1 m1 (.int _) _ (Ext.laid hS1 hp') (hS1.laid hp') (.int _)⟩
      rcases hw with ⟨ws, h, q⟩ | ⟨ws, h, q⟩
      · exact .inl ⟨ws, by rw [upd_ne (ne_of_none h hp')]; exact h, q⟩
      · exact .inr ⟨ws, by rw [upd_ne (ne_of_none h hp')]; exact h, q⟩
    · exact False.elim hP1
  · cases h
theorem okE_odc {X : Cx} {W : WX} (G : Good T n cls N X) (tk : Takes X W) (e : Expr) (h : chkE T N X.env.scope .odc e = true) : PE X e (tE X.K cls W (ev (callN T.T n) .odc)) := by
  unfold chkE at h
  split at h
  · next pos =>
    refine PE.imp pe_dnewT fun σ H Q q => ?_
    obtain ⟨m, ρ, st, hE, hS, hP⟩ := q
    intro p hp
    unfold ev at hP
    exact hP m _ _ (Ext.laid hS hp) (hS.laid hp) (.odd upd_same)
  · cases h
theorem evc_one {X : Cx} {W : WX} {e1 : E} {cf : Nat → List D → Store → R D} {m : Pl} {H : Hp} {σ : L2.St} {Q : Bool → Hp → Prop} {ρ : Env} {st : Store} (hP : Post X.K cls relB W m H σ Q ((asBool (ev cf e1 ρ st)).bind fun k st => if k then evc cf [] ρ st else .ok false st)) : Post X.K cls relB W m H σ Q (asBool (ev cf e1 ρ st)) := by
  cases er : asBool (ev cf e1 ρ st) with
  | ok k s2 =>
    rw [er] at hP
    simp only [R.bind_ok] at hP
    cases k
    · exact hP
    · simp only [if_true, evc] at hP; exact hP
  | exc c s => rw [er] at hP; exact hP
  | fault => rw [er] at hP; exact hP
theorem chkTg_tup {ck : Str → Bool} {sc : Scope} {tg : List Nat} {one : Bool} {t : Expr} (h : chkTg ck N sc tg one t = true) : one = false → ∃ es k p, t = .Tuple es k p := by
  rintro rfl
  unfold chkTg at h
  split at h
  · simp at h
  · exact ⟨_, _, _, rfl⟩
  · cases h
theorem comp_parts {fz : Bool} {own : List Nat} {tg : List Nat} {one : Bool} {it : E} {c : List E} {elt : E} (Iit : Ok T n cls N it) (Ic : ∀ e ∈ c, Ok T n cls N e) (Ielt : Ok T n cls N elt) {X : Cx} {W : WX} (G : Good T n cls N X) (tk : Takes X W) (e : Expr) (h : chkE T N X.env.scope (.comp fz own tg one it c elt) e = true) :
    ∃ y t i cs scope p, e = .ListComp y [⟨t, i, cs, 0⟩] scope p ∧ PI X t i (tW X.K cls W (evI (callN T.T n) it)) ∧ plainE i = true ∧ BlkOk X.N X.env.scope scope (ownN N own) ∧
      (∀ (s : Shared) (H : Hp) (C : Addr) (cl : List (Str × Addr)) (fp : List Addr), PG (X.blk s H scope (PySem.compEnvC scope cl C X.env) fp) t (gD X.K tg one)) ∧
      (∀ (s : Shared) (H : Hp) (C : Addr) (cl : List (Str × Addr)) (fp : List Addr), PTs (X.blk s H scope (PySem.compEnvC scope cl C X.env) fp) cs (tT X.K cls (fun _ _ _ _ => False) (evc (callN T.T n) c))) ∧
      (∀ (s : Shared) (H : Hp) (C : Addr) (cl : List (Str × Addr)) (fp : List Addr), PE (X.blk s H scope (PySem.compEnvC scope cl C X.env) fp) y (tE X.K cls (fun _ _ _ _ => False) (ev (callN T.T n) elt))) ∧
      ∀ σ H Q, tE X.K cls W (ev (callN T.T n) (.comp fz own tg one it c elt)) σ H Q → tLc (tW X.K cls W (evI (callN T.T n) it)) (gD X.K tg one) (tT X.K cls (fun _ _ _ _ => False) (evc (callN T.T n) c)) (tE X.K cls (fun _ _ _ _ => False) (ev (callN T.T n) elt)) ((ownN N own).map (·.2)) σ H Q := by
  unfold chkE at h
  have hh := (hot_and h).1
  replace h := (hot_and h).2
  split at h
  · next y t i cs scope p =>
    simp only [Bool.and_eq_true, List.all_eq_true, decide_eq_true_eq] at h
    obtain ⟨⟨⟨⟨⟨⟨⟨h1, h2⟩, h3⟩, h4⟩, h5⟩, h6⟩, h7⟩, h8⟩ := h
    have eo : (ownN N own).map (·.2) = own := by unfold ownN; rw [List.map_map]; exact List.map_id _
    have ok : BlkOk X.N X.env.scope scope (ownN N own) := by rw [G.nm]; exact blkOk_by h2
    have hc : ∀ (s : Shared) (H : Hp) (C : Addr) (cl : List (Str × Addr)) (fp : List Addr), PTs (X.blk s H scope (PySem.compEnvC scope cl C X.env) fp) cs (tT X.K cls (fun _ _ _ _ => False) (evc (callN T.T n) c)) := fun s H C cl fp => by
      match c, cs, h6, h5, Ic with
      | [], [], _, _, _ =>
        refine ⟨fun pins s σ H Q I q => ?_⟩
        obtain ⟨m, ρ, st, hE, hS, hP⟩ := q
        unfold evc at hP
        exact pts_nil.run pins s σ H Q I (hP.here hS rfl)
      | [e1], [x1], h6, _, Ic =>
        unfold chkEs at h6
        simp only [Bool.and_eq_true] at h6
        refine ⟨fun pins s σ H Q I q => ?_⟩
        refine (pts_one ((Ic e1 (.head _)).pT (G.blk (s := _) (H := _) (scope := scope) (cenv := PySem.compEnvC scope cl C X.env) (fp := fp)) (tk_never rfl) x1 h6.1.2)).run pins s σ H Q I ?_
        obtain ⟨m, ρ, st, hE, hS, hP⟩ := q
        unfold evc at hP
        refine ⟨m, ρ, st, hE, hS, ?_⟩
        exact evc_one hP
      | [], _ :: _, h6, _, _ => unfold chkEs at h6; cases h6
      | _ :: _, [], h6, _, _ => unfold chkEs at h6; cases h6
      | _ :: _, _ :: _ :: _, _, h5, _ => simp at h5
      | e1 :: e2 :: es, [x1], h6, _, _ =>
        unfold chkEs at h6
        simp only [Bool.and_eq_true] at h6
        unfold chkEs at h6
        exact absurd h6.2 (by simp)
    refine ⟨y, t, i, cs, scope, p, rfl, (Iit.pI G tk (chkTg_tup h3) i h1).1, (Iit.pI (tg := t) G tk (chkTg_tup h3) i h1).2, ok, fun s H C cl fp => ?_, hc, fun s H C cl fp => ?_, fun σ H Q q => ?_⟩
    · exact pg_D (N := N) (ck := fun x => scope.names.lookup x == some .cell) (X := X.blk s H scope (PySem.compEnvC scope cl C X.env) fp) (G.calm hh) (by show X.N.Nodup; rw [G.nm]; exact G.nd) G.nm (fun x hx => hx) h3
    · exact Ielt.pE (G.blk (s := s) (H := H) (scope := scope) (cenv := PySem.compEnvC scope cl C X.env) (fp := fp)) (tk_never rfl) y h7
    · rw [eo]
      refine tLc_D (fz := fz) (fun i hi => List.contains_iff_mem.mp (h4 i hi)) ?_
      obtain ⟨m, ρ, st, hE, hS, hP⟩ := q
      unfold ev at hP
      exact ⟨m, ρ, st, hE, hS, hP⟩
  · cases h
theorem okE_comp {fz : Bool} {own : List Nat} {tg : List Nat} {one : Bool} {it : E} {c : List E} {elt : E} (Iit : Ok T n cls N it) (Ic : ∀ e ∈ c, Ok T n cls N e) (Ielt : Ok T n cls N elt) {X : Cx} {W : WX} (G : Good T n cls N X) (tk : Takes X W) (e : Expr) (h : chkE T N X.env.scope (.comp fz own tg one it c elt) e = true) : PE X e (tE X.K cls W (ev (callN T.T n) (.comp fz own tg one it c elt))) := by
  have hh : T.hot = false := by unfold chkE at h; exact (hot_and h).1
  obtain ⟨y, t, i, cs, scope, p, rfl, p1, p2, ok, p3, p4, p5, p6⟩ := comp_parts Iit Ic Ielt G tk e h
  exact PE.imp (pe_lc (G.calm hh) (by rw [G.nm]; exact G.nd) p1 ok p3 p4 p5 (fold_plain2 p2)) p6
theorem okT_and {a : E} {b : E} (Ia : Ok T n cls N a) (Ib : Ok T n cls N b) {X : Cx} {W : WX} (G : Good T n cls N X) (tk : Takes X W) (e : Expr) (h : chkE T N X.env.scope (.and a b) e = true) : PT X e (tT X.K cls W fun ρ st => asBool (ev (callN T.T n) (.and a b) ρ st)) := by
  unfold chkE at h
  have fin : ∀ {x : Expr} {tb : TT} {whole : Expr} (_ : PT X x (tT X.K cls W fun ρ st => asBool (ev (callN T.T n) a ρ st))),
      PT X whole (tAnd (tT X.K cls W fun ρ st => asBool (ev (callN T.T n) a ρ st)) (tT X.K cls W fun ρ st => asBool (ev (callN T.T n) b ρ st))) → PT X whole (tT X.K cls W fun ρ st => asBool (ev (callN T.T n) (.and a b) ρ st)) := fun _ hw => by
    refine PT.imp hw fun σ H Q q => ?_
    obtain ⟨m, ρ, st, hE, hS, hP⟩ := q
    unfold ev at hP
    dsimp only at hP
    erw [asBool_and] at hP
    refine tG.of hE hS hP fun k st1 m1 k' H1 _ _ hE1 hS1 r1 hP1 => ?_
    have r1 : k = k' := r1
    subst r1
    cases k with
    | true => exact ⟨m1, ρ, st1, hE1, hS1, hP1⟩
    | false => exact hP1.here hS1 rfl
  split at h
  · next x y p =>
    simp only [Bool.and_eq_true] at h
    have pa := Ia.pT G tk x h.1
    exact fin (tb := fun _ _ _ => True) pa (PW.pt (pw_and pa (pw_and1 (Ib.pT G tk y h.2))))
  · next x y z r p =>
    simp only [Bool.and_eq_true] at h
    have pa := Ia.pT G tk x h.1
    exact fin (tb := fun _ _ _ => True) pa (PW.pt (pw_and pa ⟨fun wh pins s σ H Q I hq => (Ib.pT G tk _ h.2).run pins s σ H Q I hq⟩))
  · cases h
theorem okT_or {a : E} {b : E} (Ia : Ok T n cls N a) (Ib : Ok T n cls N b) {X : Cx} {W : WX} (G : Good T n cls N X) (tk : Takes X W) (e : Expr) (h : chkE T N X.env.scope (.or a b) e = true) : PT X e (tT X.K cls W fun ρ st => asBool (ev (callN T.T n) (.or a b) ρ st)) := by
  unfold chkE at h
  have fin : ∀ {x : Expr} {tb : TT} {whole : Expr} (_ : PT X x (tT X.K cls W fun ρ st => asBool (ev (callN T.T n) a ρ st))),
      PT X whole (tOr (tT X.K cls W fun ρ st => asBool (ev (callN T.T n) a ρ st)) (tT X.K cls W fun ρ st => asBool (ev (callN T.T n) b ρ st))) → PT X whole (tT X.K cls W fun ρ st => asBool (ev (callN T.T n) (.or a b) ρ st)) := fun _ hw => by
    refine PT.imp hw fun σ H Q q => ?_
    obtain ⟨m, ρ, st, hE, hS, hP⟩ := q
    unfold ev at hP
    dsimp only at hP
    erw [asBool_or] at hP
    refine tG.of hE hS hP fun k st1 m1 k' H1 _ _ hE1 hS1 r1 hP1 => ?_
    have r1 : k = k' := r1
    subst r1
    cases k with
    | false => exact ⟨m1, ρ, st1, hE1, hS1, hP1⟩
    | true => exact hP1.here hS1 rfl
  split at h
  · next x y p =>
    simp only [Bool.and_eq_true] at h
    have pa := Ia.pT G tk x h.1
    exact fin (tb := fun _ _ _ => True) pa (PW.pt (pw_or pa (pw_or1 (Ib.pT G tk y h.2))))
  · next x y z r p =>
    simp only [Bool.and_eq_true] at h
    have pa := Ia.pT G tk x h.1
    exact fin (tb := fun _ _ _ => True) pa (PW.pt (pw_or pa ⟨fun wh pins s σ H Q I hq => (Ib.pT G tk _ h.2).run pins s σ H Q I hq⟩))
  · cases h
theorem okT_not {a : E} (Ia : Ok T n cls N a) {X : Cx} {W : WX} (G : Good T n cls N X) (tk : Takes X W) (e : Expr) (h : chkE T N X.env.scope (.not a) e = true) : PT X e (tT X.K cls W fun ρ st => asBool (ev (callN T.T n) (.not a) ρ st)) := by
  unfold chkE at h
  split at h
  · next x p =>
    refine PT.imp (pt_not (Ia.pT G tk x h)) fun σ H Q q => ?_
    obtain ⟨m, ρ, st, hE, hS, hP⟩ := q
    unfold ev at hP
    dsimp only at hP
    erw [asBool_not] at hP
    refine tG.of hE hS hP fun k st1 m1 k' H1 _ _ hE1 hS1 r1 hP1 => ?_
    have r1 : k = k' := r1
    subst r1
    exact hP1.here hS1 rfl
  · cases h
theorem okT_ite {c : E} {a : E} {b : E} (Ic : Ok T n cls N c) (Ia : Ok T n cls N a) (Ib : Ok T n cls N b) {X : Cx} {W : WX} (G : Good T n cls N X) (tk : Takes X W) (e : Expr) (h : chkE T N X.env.scope (.ite c a b) e = true) : PT X e (tT X.K cls W fun ρ st => asBool (ev (callN T.T n) (.ite c a b) ρ st)) := by
  unfold chkE at h
  split at h
  · next z x y p =>
    simp only [Bool.and_eq_true] at h
    refine PT.imp (pt_ifExp (Ic.pT G tk z h.1.1) (Ia.pT G tk x h.1.2) (Ib.pT G tk y h.2)) fun σ H Q q => tT_if ?_
    obtain ⟨m, ρ, st, hE, hS, hP⟩ := q
    unfold ev at hP
    dsimp only at hP
    erw [asBool_ite] at hP
    exact ⟨m, ρ, st, hE, hS, hP⟩
  · cases h
theorem okT_cmp {op : COp} {a : E} {b : E} (Ia : Ok T n cls N a) (Ib : Ok T n cls N b) {X : Cx} {W : WX} (G : Good T n cls N X) (tk : Takes X W) (e : Expr) (h : chkE T N X.env.scope (.cmp op a b) e = true) : PT X e (tT X.K cls W fun ρ st => asBool (ev (callN T.T n) (.cmp op a b) ρ st)) := by
  unfold chkE at h
  split at h
  · next x o y p =>
    simp only [Bool.and_eq_true, decide_eq_true_eq] at h
    obtain ⟨⟨⟨rfl, h1⟩, h2⟩, h3⟩ := h
    refine PT.imp (pt_cmpR (opC (op := op) (cls := cls) G.units) (Ia.pE G tk x h1) (Ib.pE G tk y h2) (marks_plain h3)) fun σ H Q q => ?_
    obtain ⟨m, ρ, st, hE, hS, hP⟩ := q
    unfold ev asBool at hP
    dsimp only at hP
    rw [R.bind_assoc] at hP
    refine tG.of hE hS hP fun d st1 m1 v H1 _ _ hE1 hS1 r1 hP1 => ?_
    rw [R.bind_assoc] at hP1
    refine tG.of hE1 hS1 hP1 fun e st2 m2 w H2 _ x2 hE2 hS2 r2 hP2 => ?_
    exact ⟨W, σ, m2, st2, d, e, hS2, r1.mono hS1.cells x2, r2, post_bl hS2 hP2⟩
  · cases h
theorem okT_chn {o : COp} {p : COp} {a : E} {b : E} {c : E} (Ia : Ok T n cls N a) (Ib : Ok T n cls N b) (Ic : Ok T n cls N c) {X : Cx} {W : WX} (G : Good T n cls N X) (tk : Takes X W) (e : Expr) (h : chkE T N X.env.scope (.chn o p a b c) e = true) : PT X e (tT X.K cls W fun ρ st => asBool (ev (callN T.T n) (.chn o p a b c) ρ st)) := by
  unfold chkE at h
  split at h
  · next x o' p' y z ps =>
    simp only [Bool.and_eq_true, decide_eq_true_eq] at h
    obtain ⟨⟨⟨⟨⟨⟨rfl, rfl⟩, h1⟩, h2⟩, h3⟩, h4⟩, h5⟩ := h
    refine PT.imp (pt_chain (opC (op := o) (cls := cls) G.units) (opC (op := p) (cls := cls) G.units) (Ia.pE G tk x h1) (Ib.pE G tk y h2) (Ic.pE G tk z h3) (marks_plain h5)) fun σ H Q q => ?_
    obtain ⟨m, ρ, st, hE, hS, hP⟩ := q
    unfold ev asBool at hP
    dsimp only at hP
    rw [R.bind_assoc] at hP
    refine tG.of hE hS hP fun d st1 m1 v H1 _ _ hE1 hS1 r1 hP1 => ?_
    rw [R.bind_assoc] at hP1
    refine tG.of hE1 hS1 hP1 fun e st2 m2 w H2 _ x2 hE2 hS2 r2 hP2 => ?_
    rw [R.bind_assoc] at hP2
    refine ⟨W, σ, m2, st2, d, e, hS2, r1.mono hS1.cells x2, r2, ?_⟩
    cases ec : compop o d e st2 with
    | ok kd st3 =>
      rw [ec] at hP2
      simp only [R.bind_ok] at hP2
      obtain ⟨k, rfl, rfl⟩ := compop_bl ec
      intro m3 z H3 x3 hS3 rz
      cases rz
      refine ⟨k, rfl, ?_⟩
      cases k with
      | true =>
        rw [if_pos rfl]
        simp only at hP2
        rw [R.bind_assoc] at hP2
        refine tG.of (hE2.mono hS2.cells x3) hS3 (Post.shift hP2 x3) fun c' st4 m4 w4 H4 _ x4 hE4 hS4 r4 hP4 => ?_
        exact ⟨W, σ, m4, st4, e, c', hS4, (r2.mono hS2.cells x3).mono hS3.cells x4, r4, post_bl hS4 hP4⟩
      | false =>
        rw [if_neg Bool.false_ne_true]
        exact ⟨false, rfl, (Post.shift hP2 x3).here hS3 rfl⟩
    | exc c s => rw [ec] at hP2; exact hP2
    | fault => rw [ec] at hP2; exact hP2
  · cases h
theorem okI_iSeq {a : E} (Ia : Ok T n cls N a) {X : Cx} {W : WX} (G : Good T n cls N X) (tk : Takes X W) {tg : Expr} {one : Bool} (ht : one = false → ∃ es k p, tg = .Tuple es k p) (e : Expr) (h : chkI T N X.env.scope one (.iSeq a) e = true) : PI X tg e (tW X.K cls W (evI (callN T.T n) (.iSeq a))) ∧ plainE e = true := by
  unfold chkI at h
  simp only [Bool.and_eq_true] at h
  refine ⟨PI.imp (pi_seqD (Ia.pE G tk e h.2)) fun σ H R q => ?_, h.1⟩
  obtain ⟨m, ρ, st, hE, hS, hP⟩ := q
  unfold evI at hP
  exact ⟨m, ρ, st, hE, hS, hP⟩
theorem okI_iRng {es : List E} (Ies : ∀ e ∈ es, Ok T n cls N e) {X : Cx} {W : WX} (G : Good T n cls N X) (tk : Takes X W) {tg : Expr} {one : Bool} (ht : one = false → ∃ es k p, tg = .Tuple es k p) (e : Expr) (h : chkI T N X.env.scope one (.iRng es) e = true) : PI X tg e (tW X.K cls W (evI (callN T.T n) (.iRng es))) ∧ plainE e = true := by
  unfold chkI at h
  split at h
  · next x p a as pos =>
    simp only [Bool.and_eq_true, beq_iff_eq, decide_eq_true_eq] at h
    obtain ⟨⟨⟨rfl, hg⟩, hes⟩, h2⟩ := h
    obtain ⟨g1, g2, g3⟩ := gloB_glo hg
    refine ⟨PI.imp (pi_rngD (fun ρ st ds st' e => by rw [evs_len _ _ _ _ _ _ e]; exact chkEs_len hes) (by simp) h2 (chkEs_plain hes) g1 (G.mg "range") ((oks_pa Ies) G tk _ hes)) fun σ H R q => ?_, rfl⟩
    obtain ⟨m, ρ, st, hE, hS, hP⟩ := q
    unfold evI at hP
    exact ⟨m, ρ, st, hE, hS, hP⟩
  · cases h
theorem tO_of {X : Cx} {W : WX} {es : List E} (I : ∀ e ∈ es, Ok T n cls N e) (G : Good T n cls N X) (tk : Takes X W) (o : Option Expr) (h : chkEs T N X.env.scope es o.toList = true) :
    PO X o (tG X.K cls (fun _ _ (a b : Option Int) => a = b) W fun ρ st => (evs (callN T.T n) es ρ st).bind oneIntR) := by
  cases o with
  | none =>
    have e0 : es = [] := by have := chkEs_len h; simpa using this
    subst e0
    refine ⟨fun pins s σ H Q J q => po_none.run pins s σ H Q J ?_⟩
    obtain ⟨m, ρ, st, hE, hS, hP⟩ := q
    unfold evs at hP
    exact hP.here hS rfl
  | some x =>
    have hl := chkEs_len h
    match es, I, h, hl with
    | [], _, _, hl => cases hl
    | _ :: _ :: _, _, _, hl => simp at hl
    | [a], I, h, _ =>
      have h : chkEs T N X.env.scope [a] [x] = true := h
      unfold chkEs at h
      simp only [Bool.and_eq_true] at h
      refine ⟨fun pins s σ H Q J q => (po_some ((I a (.head _)).pE G tk x h.1.2)).run pins s σ H Q J ?_⟩
      obtain ⟨m, ρ, st, hE, hS, hP⟩ := q
      unfold evs at hP
      dsimp only at hP
      rw [R.bind_assoc] at hP
      refine tG.of hE hS hP fun d st1 m1 v H1 _ _ hE1 hS1 r1 hP1 => ?_
      unfold evs at hP1
      simp only [R.bind_ok] at hP1
      unfold oneIntR oneInt at hP1
      split at hP1
      · next o eo =>
        split at eo
        · next e1 => cases e1
        · next i e1 =>
          cases e1; cases eo; cases r1
          exact ⟨i, rfl, hP1.here hS1 rfl⟩
        · cases eo
      · exact False.elim hP1
theorem okE_mth {m : Mth} {fz : Bool} {o : E} {es : List E} (Io : Ok T n cls N o) (Ies : ∀ e ∈ es, Ok T n cls N e) {X : Cx} {W : WX} (G : Good T n cls N X) (tk : Takes X W) (e : Expr) (h : chkE T N X.env.scope (.mth m fz o es) e = true) : PE X e (tE X.K cls W (ev (callN T.T n) (.mth m fz o es))) := by
  unfold chkE at h
  split at h
  · next y nm ap as cp =>
    simp only [Bool.and_eq_true, beq_iff_eq, decide_eq_true_eq] at h
    obtain ⟨⟨⟨⟨⟨⟨h1, rfl⟩, h3⟩, h4⟩, h5⟩, h6⟩, h7⟩ := h
    obtain ⟨id, pa, slot, hty, hm⟩ := mth_rule (X := X) (cls := cls) (by have := G.units; omega) (fz := fz) h1
    have q0 : ∀ σ H Q, tE X.K cls W (ev (callN T.T n) (.mth m fz o es)) σ H Q → tBM X.K (mthTy m) (rM X.K cls (meth m fz)) (tE X.K cls W (ev (callN T.T n) o)) (tL X.K cls W (evs (callN T.T n) es)) σ H Q := fun σ H Q q => by
      obtain ⟨mm, ρ, st, hE, hS, hP⟩ := q
      unfold ev at hP
      refine tG.of hE hS hP fun d st1 m1 v H1 _ _ hE1 hS1 r1 hP1 => ?_
      split at hP1
      · next hr =>
        refine ⟨recv_ty hS1 r1 hr, ?_⟩
        refine tG.of hE1 hS1 hP1 fun ds st2 m2 vs H2 _ x2 hE2 hS2 r2 hP2 => ?_
        exact ⟨W, σ, m2, st2, d, ds, hS2, r1.mono hS1.cells x2, r2, hP2⟩
      · exact False.elim hP1
    have hpl := chkEs_plain h6
    match as, h6, h7, hpl with
    | [], h6, _, _ =>
      have he : es = [] := by have := chkEs_len h6; simpa using this
      subst he
      refine PE.imp (pe_bm0 pa slot hty hm (Io.pE G tk y h5) (base_ok h3) (by rw [h4]; exact beq_self_eq_true _)) fun σ H Q q => ?_
      obtain ⟨mm, ρ, st, hE, hS, hP⟩ := q0 σ H Q q
      refine ⟨mm, ρ, st, hE, hS, ?_⟩
      cases e1 : ev (callN T.T n) o ρ st with
      | ok d s =>
        rw [e1] at hP
        intro m' v H' x hS' r
        obtain ⟨t1, mm2, ρ2, st2, hE2, hS2, hP2⟩ := hP m' v H' x hS' r
        unfold evs at hP2
        exact ⟨t1, hP2.here hS2 .nil⟩
      | exc c s => rw [e1] at hP; exact hP
      | fault => rw [e1] at hP; exact hP
    | [a], h6, _, hpl =>
      simp only [List.all_cons, Bool.and_eq_true] at hpl
      refine PE.imp (pe_bm pa slot hty hm (Io.pE G tk y h5) (oks_pa Ies G tk _ h6) (base_ok h3) (by rw [star_plain hpl.1]; rfl) (by rw [h4]; exact beq_self_eq_true _) (star_plain hpl.1) (by rfl)) q0
    | [a, b], h6, _, hpl =>
      simp only [List.all_cons, Bool.and_eq_true] at hpl
      refine PE.imp (pe_bm pa slot hty hm (Io.pE G tk y h5) (oks_pa Ies G tk _ h6) (base_ok h3) (by rw [star_plain hpl.1, star_plain hpl.2.1]; rfl) (by rw [h4]; exact beq_self_eq_true _) (star_plain hpl.1) (backTo_any (by simp [hpl.2.1]))) q0
    | _ :: _ :: _ :: _, _, h7, _ => simp at h7
  · cases h
theorem okE_slc {fz : Bool} {a : E} {lo hi : List E} (Ia : Ok T n cls N a) (Ilo : ∀ e ∈ lo, Ok T n cls N e) (Ihi : ∀ e ∈ hi, Ok T n cls N e) {X : Cx} {W : WX} (G : Good T n cls N X) (tk : Takes X W) (e : Expr) (h : chkE T N X.env.scope (.slc fz a lo hi) e = true) : PE X e (tE X.K cls W (ev (callN T.T n) (.slc fz a lo hi))) := by
  unfold chkE at h
  split at h
  · next x l u p2 p =>
    simp only [Bool.and_eq_true] at h
    refine PE.imp (pe_slice (slD (cls := cls) (fz := fz)) (Ia.pE G tk x h.1.1) (tO_of Ilo G tk l h.1.2) (tO_of Ihi G tk u h.2)) fun σ H Q q => ?_
    obtain ⟨m, ρ, st, hE, hS, hP⟩ := q
    unfold ev at hP
    refine tG.of hE hS hP fun d st1 m1 v H1 _ _ hE1 hS1 r1 hP1 => ?_
    refine tG.of hE1 hS1 hP1 fun l1 st2 m2 l2 H2 _ x2 hE2 hS2 r2 hP2 => ?_
    refine tG.of hE2 hS2 hP2 fun u1 st3 m3 u2 H3 _ x3 hE3 hS3 r3 hP3 => ?_
    have r2 : l1 = l2 := r2
    have r3 : u1 = u2 := r3
    subst r2 r3
    exact ⟨W, σ, m3, st3, d, hS3, (r1.mono hS1.cells x2).mono hS2.cells x3, hP3⟩
  · cases h
theorem okE_rev {fz : Bool} {a : E} (Ia : Ok T n cls N a) {X : Cx} {W : WX} (G : Good T n cls N X) (tk : Takes X W) (e : Expr) (h : chkE T N X.env.scope (.rev fz a) e = true) : PE X e (tE X.K cls W (ev (callN T.T n) (.rev fz a))) := by
  unfold chkE at h
  split at h
  · next x k p1 p2 p3 p =>
    refine PE.imp (pe_revD (cls := cls) (W := W) (fz := fz) (Ia.pE G tk x h)) fun σ H Q q => ?_
    obtain ⟨m, ρ, st, hE, hS, hP⟩ := q
    unfold ev at hP
    exact ⟨m, ρ, st, hE, hS, hP⟩
  · cases h
theorem okI_iZip {a b : E} (Ia : Ok T n cls N a) (Ib : Ok T n cls N b) {X : Cx} {W : WX} (G : Good T n cls N X) (tk : Takes X W) {tg : Expr} {one : Bool} (ht : one = false → ∃ es k p, tg = .Tuple es k p) (e : Expr) (h : chkI T N X.env.scope one (.iZip a b) e = true) : PI X tg e (tW X.K cls W (evI (callN T.T n) (.iZip a b))) ∧ plainE e = true := by
  unfold chkI at h
  split at h
  · next x p y z pos =>
    simp only [Bool.and_eq_true, beq_iff_eq, Bool.not_eq_true'] at h
    obtain ⟨⟨⟨⟨⟨⟨rfl, hg⟩, h1⟩, h2⟩, h3⟩, h4⟩, h5⟩ := h
    obtain ⟨g1, g2, g3⟩ := gloB_glo hg
    obtain ⟨es, k, tp, rfl⟩ := ht h1
    refine ⟨PI.imp (pi_zipD (cls := cls) (W := W) g1 (G.mg "zip") (Ia.pE G tk y h4) (Ib.pE G tk z h5) h2 h3) fun σ H R q => ?_, rfl⟩
    obtain ⟨m, ρ, st, hE, hS, hP⟩ := q
    unfold evI at hP
    exact ⟨m, ρ, st, hE, hS, hP⟩
  · cases h
theorem okI_iEnm {a : E} (Ia : Ok T n cls N a) {X : Cx} {W : WX} (G : Good T n cls N X) (tk : Takes X W) {tg : Expr} {one : Bool} (ht : one = false → ∃ es k p, tg = .Tuple es k p) (e : Expr) (h : chkI T N X.env.scope one (.iEnm a) e = true) : PI X tg e (tW X.K cls W (evI (callN T.T n) (.iEnm a))) ∧ plainE e = true := by
  unfold chkI at h
  split at h
  · next x p y pos =>
    simp only [Bool.and_eq_true, beq_iff_eq, Bool.not_eq_true'] at h
    obtain ⟨⟨⟨⟨rfl, hg⟩, h1⟩, h2⟩, h4⟩ := h
    obtain ⟨g1, g2, g3⟩ := gloB_glo hg
    obtain ⟨es, k, tp, rfl⟩ := ht h1
    refine ⟨PI.imp (pi_enmD (cls := cls) (W := W) g1 (G.mg "enumerate") (Ia.pE G tk y h4) h2) fun σ H R q => ?_, rfl⟩
    obtain ⟨m, ρ, st, hE, hS, hP⟩ := q
    unfold evI at hP
    exact ⟨m, ρ, st, hE, hS, hP⟩
  · cases h
theorem Ok.no {ir : E} (hE : ∀ sc e, chkE T N sc ir e = false) (hI : ∀ sc o e, chkI T N sc o ir e = false) : Ok T n cls N ir :=
  ⟨fun _ _ e h => (by rw [hE] at h; cases h), fun _ _ e h => (by rw [hE] at h; cases h), fun _ _ _ _ _ e h => (by rw [hI] at h; cases h)⟩
theorem Ok.val {ir : E} (hE : ∀ {X : Cx} {W : WX} (G : Good T n cls N X) (tk : Takes X W) (e : Expr), chkE T N X.env.scope ir e = true → PE X e (tE X.K cls W (ev (callN T.T n) ir)))
    (ht : ∀ sc e, chkE T N sc ir e = true → testE e = false) (hI : ∀ sc o e, chkI T N sc o ir e = false) : Ok T n cls N ir :=
  ⟨hE, fun G tk e h => PT.imp (pt_of (hE G tk e h) (ht _ _ h)) fun σ H Q q => tB_of q, fun _ _ _ _ _ e h => (by rw [hI] at h; cases h)⟩
theorem Ok.tst {ir : E} (hE : ∀ {X : Cx} {W : WX} (G : Good T n cls N X) (tk : Takes X W) (e : Expr), chkE T N X.env.scope ir e = true → PE X e (tE X.K cls W (ev (callN T.T n) ir)))
    (hT : ∀ {X : Cx} {W : WX} (G : Good T n cls N X) (tk : Takes X W) (e : Expr), chkE T N X.env.scope ir e = true → PT X e (tT X.K cls W fun ρ st => asBool (ev (callN T.T n) ir ρ st)))
    (hI : ∀ sc o e, chkI T N sc o ir e = false) : Ok T n cls N ir :=
  ⟨hE, hT, fun _ _ _ _ _ e h => (by rw [hI] at h; cases h)⟩

mutual
theorem okAll : ∀ ir : E, Ok T n cls N ir
  | .var i => .val okE_var (by intro sc e h; unfold chkE at h; split at h <;> first | rfl | cases h) (by intro sc o e; unfold chkI; rfl)
  | .cst d => .val okE_cst (by intro sc e h; unfold chkE at h; split at h <;> first | rfl | cases h) (by intro sc o e; unfold chkI; rfl)
  | .glo y d => .val okE_glo (by intro sc e h; unfold chkE at h; split at h <;> first | rfl | cases h) (by intro sc o e; unfold chkI; rfl)
  | .tup es => .val (okE_tup (oksAll es)) (by intro sc e h; unfold chkE at h; split at h <;> first | rfl | cases h) (by intro sc o e; unfold chkI; rfl)
  | .lst fz es => .val (okE_lst (oksAll es)) (by intro sc e h; unfold chkE at h; split at h <;> first | rfl | cases h) (by intro sc o e; unfold chkI; rfl)
  | .bin op fz a b => .val (okE_bin (okAll a) (okAll b)) (by intro sc e h; unfold chkE at h; split at h <;> first | rfl | cases h) (by intro sc o e; unfold chkI; rfl)
  | .neg a => .val (okE_neg (okAll a)) (by intro sc e h; unfold chkE at h; split at h <;> first | rfl | cases h) (by intro sc o e; unfold chkI; rfl)
  | .cmp op a b => .tst (okE_cmp (okAll a) (okAll b)) (okT_cmp (okAll a) (okAll b)) (by intro sc o e; unfold chkI; rfl)
  | .chn o p a b c => .tst (okE_chn (okAll a) (okAll b) (okAll c)) (okT_chn (okAll a) (okAll b) (okAll c)) (by intro sc o e; unfold chkI; rfl)
  | .and a b => .tst (okE_and (okAll a) (okAll b)) (okT_and (okAll a) (okAll b)) (by intro sc o e; unfold chkI; rfl)
  | .or a b => .tst (okE_or (okAll a) (okAll b)) (okT_or (okAll a) (okAll b)) (by intro sc o e; unfold chkI; rfl)
  | .not a => .tst (okE_not (okAll a)) (okT_not (okAll a)) (by intro sc o e; unfold chkI; rfl)
  | .ite c a b => .tst (okE_ite (okAll c) (okAll a) (okAll b)) (okT_ite (okAll c) (okAll a) (okAll b)) (by intro sc o e; unfold chkI; rfl)
  | .call fz f es df => .val (okE_call (oksAll es)) (by intro sc e h; unfold chkE at h; replace h := (hot_and h).2; split at h <;> first | rfl | cases h) (by intro sc o e; unfold chkI; rfl)
  | .prm p fz es => .val (okE_prm (oksAll es)) (by intro sc e h; unfold chkE at h; replace h := (hot_and h).2; split at h <;> first | rfl | cases h) (by intro sc o e; unfold chkI; rfl)
  | .isa a tys => .val (okE_isa (okAll a)) (by intro sc e h; unfold chkE at h; split at h <;> first | rfl | cases h) (by intro sc o e; unfold chkI; rfl)
  | .idx a b => .val (okE_idx (okAll a) (okAll b)) (by intro sc e h; unfold chkE at h; split at h <;> first | rfl | cases h) (by intro sc o e; unfold chkI; rfl)
  | .slc fz a lo hi => .val (okE_slc (okAll a) (oksAll lo) (oksAll hi)) (by intro sc e h; unfold chkE at h; split at h <;> first | rfl | cases h) (by intro sc o e; unfold chkI; rfl)
  | .rev fz a => .val (okE_rev (okAll a)) (by intro sc e h; unfold chkE at h; split at h <;> first | rfl | cases h) (by intro sc o e; unfold chkI; rfl)
  | .mth m fz o es => .val (okE_mth (okAll o) (oksAll es)) (by intro sc e h; unfold chkE at h; split at h <;> first | rfl | cases h) (by intro sc o e; unfold chkI; rfl)
  | .sit a => .val (okE_sit (okAll a)) (by intro sc e h; unfold chkE at h; replace h := (hot_and h).2; split at h <;> first | rfl | cases h) (by intro sc o e; unfold chkI; rfl)
  | .mxv a => .val (okE_mxv (okAll a)) (by intro sc e h; unfold chkE at h; replace h := (hot_and h).2; split at h <;> first | rfl | cases h) (by intro sc o e; unfold chkI; rfl)
  | .lns a => .val (okE_lns (okAll a)) (by intro sc e h; unfold chkE at h; replace h := (hot_and h).2; split at h <;> first | rfl | cases h) (by intro sc o e; unfold chkI; rfl)
  | .srs fz a => .val (okE_srs (okAll a)) (by intro sc e h; unfold chkE at h; replace h := (hot_and h).2; split at h <;> first | rfl | cases h) (by intro sc o e; unfold chkI; rfl)
  | .odc => .val okE_odc (by intro sc e h; unfold chkE at h; split at h <;> first | rfl | cases h) (by intro sc o e; unfold chkI; rfl)
  | .dic es => .val (okE_dic (oksAll es)) (by intro sc e h; unfold chkE at h; split at h <;> first | rfl | cases h) (by intro sc o e; unfold chkI; rfl)
  | .dit i j a => .val (okE_dit (okAll a)) (by intro sc e h; unfold chkE at h; split at h <;> first | rfl | cases h) (by intro sc o e; unfold chkI; rfl)
  | .comp fz own tg one it c elt => .val (okE_comp (okAll it) (oksAll c) (okAll elt)) (by intro sc e h; unfold chkE at h; replace h := (hot_and h).2; split at h <;> first | rfl | cases h) (by intro sc o e; unfold chkI; rfl)
  | .iSeq a => ⟨fun _ _ e h => (by unfold chkE at h; cases h), fun _ _ e h => (by unfold chkE at h; cases h), okI_iSeq (okAll a)⟩
  | .iRng es => ⟨fun _ _ e h => (by unfold chkE at h; cases h), fun _ _ e h => (by unfold chkE at h; cases h), okI_iRng (oksAll es)⟩
  | .iEnm a => ⟨fun _ _ e h => (by unfold chkE at h; cases h), fun _ _ e h => (by unfold chkE at h; cases h), okI_iEnm (okAll a)⟩
  | .iZip a b => ⟨fun _ _ e h => (by unfold chkE at h; cases h), fun _ _ e h => (by unfold chkE at h; cases h), okI_iZip (okAll a) (okAll b)⟩
theorem oksAll : ∀ es : List E, ∀ e ∈ es, Ok T n cls N e
  | [], e, h => by cases h
  | a :: as, e, h => by
    have ha := okAll a
    have hs := oksAll as
    cases h with
    | head => exact ha
    | tail _ h => exact hs e h
end
end
end Mi
/-! MiK: what a statement's meaning asks of the hand layer's terms. -/
namespace Mi
open PySem PySem.Spec L2
section
variable {K : PySem.W.Frag} {cls : Nat → Value} {W : WX} {m m1 : Pl} {H H1 : Hp} {D : Ends} {ρ : Env} {σ : L2.St} {st : Store}
def PostF (K : PySem.W.Frag) (cls : Nat → Value) (W : WX) (m : Pl) (H : Hp) (D : Ends) : F → Prop
  | .nx ρ st => ∀ m' σ' H', Ext H H' m m' → SimS K H' m' st → SimE K H' m' ρ σ' → D.nx σ' H'
  | .ct ρ st => ∀ m' σ' H', Ext H H' m m' → SimS K H' m' st → SimE K H' m' ρ σ' → D.ct σ' H'
  | .rt d st => ∀ m' v H', Ext H H' m m' → SimS K H' m' st → RD K H' m' d v → D.rt v H'
  | .exc c ρ st => ∀ m' σ' H', Ext H H' m m' → SimS K H' m' st → SimE K H' m' ρ σ' → W (cls c) none σ' H'
  | .fault => False
theorem PostF.shift {r : F} (p : PostF K cls W m H D r) (x : Ext H H1 m m1) : PostF K cls W m1 H1 D r := by
  cases r with
  | nx ρ s => exact fun m' σ' H' y => p m' σ' H' (x.trans y)
  | ct ρ s => exact fun m' σ' H' y => p m' σ' H' (x.trans y)
  | rt d s => exact fun m' v H' y => p m' v H' (x.trans y)
  | exc c ρ s => exact fun m' σ' H' y => p m' σ' H' (x.trans y)
  | fault => exact p
def tSt (K : PySem.W.Frag) (cls : Nat → Value) (W : WX) (f : Env → Store → F) : TS := fun D σ H => ∃ m ρ st, SimE K H m ρ σ ∧ SimS K H m st ∧ PostF K cls W m H D (f ρ st)
theorem tS_of {α β : Type} {rel : Hp → Pl → α → β → Prop} {f : Env → Store → R α} {k : α → Store → F} {Qa : β → Hp → Prop}
    (hE : SimE K H m ρ σ) (hS : SimS K H m st) (hP : PostF K cls W m H D ((f ρ st).toF ρ k))
    (hk : ∀ d st1 m1 v H1, f ρ st = .ok d st1 → Ext H H1 m m1 → SimE K H1 m1 ρ σ → SimS K H1 m1 st1 → rel H1 m1 d v → PostF K cls W m1 H1 D (k d st1) → Qa v H1) : tG K cls rel W f σ H Qa := by
  refine ⟨m, ρ, st, hE, hS, ?_⟩
  cases e : f ρ st with
  | ok d s =>
    rw [e] at hP
    exact fun m' v H' x hS' r => hk d s m' v H' e x (hE.mono hS.cells x) hS' r (hP.shift x)
  | exc c s =>
    rw [e] at hP
    exact fun m' H' x hS' => hP m' σ H' x hS' (hE.mono hS.cells x)
  | fault => rw [e] at hP; exact hP
theorem tS_nx {r : F} (h : r = .nx ρ st) (hE : SimE K H m ρ σ) (hS : SimS K H m st) (hP : PostF K cls W m H D r) : D.nx σ H := by
  subst h
  exact hP m σ H Ext.refl hS hE
theorem tS_seq {f g : Env → Store → F} (h : tSt K cls W (fun ρ st => (f ρ st).thn g) D σ H) : tSeq (tSt K cls W f) (tSt K cls W g) D σ H := by
  obtain ⟨m, ρ, st, hE, hS, hP⟩ := h
  refine ⟨m, ρ, st, hE, hS, ?_⟩
  dsimp only at hP
  cases e : f ρ st with
  | nx ρ1 s => rw [e] at hP; exact fun m' σ' H' x hS' hE' => ⟨m', ρ1, s, hE', hS', hP.shift x⟩
  | ct ρ1 s => rw [e] at hP; exact hP
  | rt d s => rw [e] at hP; exact hP
  | exc c ρ1 s => rw [e] at hP; exact hP
  | fault => rw [e] at hP; exact hP
theorem tS_next (h : tSt K cls W (fun ρ st => .nx ρ st) D σ H) : tNext D σ H := by
  obtain ⟨m, ρ, st, hE, hS, hP⟩ := h
  exact tS_nx rfl hE hS hP
theorem tS_cont (h : tSt K cls W (fun ρ st => .ct ρ st) D σ H) : tCont D σ H := by
  obtain ⟨m, ρ, st, hE, hS, hP⟩ := h
  exact hP m σ H Ext.refl hS hE
theorem tS_retN (h : tSt K cls W (fun _ st => .rt .non st) D σ H) : tRetN D σ H := by
  obtain ⟨m, ρ, st, hE, hS, hP⟩ := h
  exact hP m .non H Ext.refl hS .non
theorem tS_ret {f : Env → Store → R Mi.D} (h : tSt K cls W (fun ρ st => (f ρ st).toF ρ fun d st => .rt d st) D σ H) : tRet (tE K cls W f) D σ H := by
  obtain ⟨m, ρ, st, hE, hS, hP⟩ := h
  exact tS_of hE hS hP fun d st1 m1 v H1 _ _ hE1 hS1 r1 hP1 => hP1 m1 v H1 Ext.refl hS1 r1
theorem tS_drop {f : Env → Store → R Mi.D} (h : tSt K cls W (fun ρ st => (f ρ st).toF ρ fun _ st => .nx ρ st) D σ H) : tDrop (tE K cls W f) D σ H := by
  obtain ⟨m, ρ, st, hE, hS, hP⟩ := h
  exact tS_of hE hS hP fun d st1 m1 v H1 _ _ hE1 hS1 r1 hP1 => tS_nx rfl hE1 hS1 hP1
theorem tS_set {f : Env → Store → R Mi.D} {i : Nat} (h : tSt K cls W (fun ρ st => (f ρ st).toF ρ fun d st => .nx (ρ.set i (some d)) st) D σ H) : tAsg (tE K cls W f) (gName i) D σ H := by
  obtain ⟨m, ρ, st, hE, hS, hP⟩ := h
  refine tS_of hE hS hP fun d st1 m1 v H1 _ _ hE1 hS1 r1 hP1 => ?_
  exact tS_nx rfl (hE1.put (tg := [i]) (vs := [v]) (.cons r1 .nil) rfl) hS1 hP1
theorem tS_asg {f : Env → Store → R Mi.D} {tg : List Nat} {one : Bool} (h : tSt K cls W (fun ρ st => (f ρ st).toF ρ fun d st => match bindT tg one st d ρ with
    | some ρ1 => .nx ρ1 st
    | none => .fault) D σ H) : tAsg (tE K cls W f) (gD K tg one) D σ H := by
  obtain ⟨m, ρ, st, hE, hS, hP⟩ := h
  refine tS_of hE hS hP fun d st1 m1 v H1 _ _ hE1 hS1 r1 hP1 => ?_
  split at hP1
  · next ρ1 e => exact ⟨m1, ρ, st1, d, hE1, hS1, r1, ρ1, e, fun vs hE2 => tS_nx rfl hE2 hS1 hP1⟩
  · exact False.elim hP1
theorem tS_par {f : Env → Store → R (List Mi.D)} {i j : Nat} (h : tSt K cls W (fun ρ st => (f ρ st).toF ρ fun ds st => match put ρ [i, j] ds with
    | some ρ1 => .nx ρ1 st
    | none => .fault) D σ H) : tPar i j (tL K cls W f) D σ H := by
  obtain ⟨m, ρ, st, hE, hS, hP⟩ := h
  refine tS_of hE hS hP fun ds st1 m1 vs H1 _ _ hE1 hS1 r1 hP1 => ?_
  split at hP1
  · next ρ1 e =>
    have hE2 := hE1.put r1 e
    match ds, vs, r1, e with
    | [a, b], _, .cons ra (.cons rb .nil), e => exact ⟨_, _, rfl, tS_nx rfl hE2 hS1 hP1⟩
    | [], _, .nil, e => cases e
    | [a], _, .cons ra .nil, e => cases e
    | a :: b :: c :: l, _, r, e => cases e
  · exact False.elim hP1
theorem tS_if {c : Env → Store → R Bool} {a b : Env → Store → F} (h : tSt K cls W (fun ρ st => (c ρ st).toF ρ fun k st => if k then a ρ st else b ρ st) D σ H) : tIfS (tT K cls W c) (tSt K cls W a) (tSt K cls W b) D σ H := by
  obtain ⟨m, ρ, st, hE, hS, hP⟩ := h
  refine tS_of hE hS hP fun k st1 m1 v H1 _ _ hE1 hS1 r1 hP1 => ?_
  have r1 : k = v := r1
  subst r1
  cases k with
  | true => exact ⟨m1, ρ, st1, hE1, hS1, hP1⟩
  | false => exact ⟨m1, ρ, st1, hE1, hS1, hP1⟩
theorem setitem_or (x k d : Mi.D) (st : Store) : (∃ l n xs j, x = .loc l ∧ k = .int n ∧ st[l]? = some (.lst xs) ∧ ixN xs.length n = some j ∧ setitem x k d st = .ok () (st.set l (.lst (xs.set j d)))) ∨
    (∃ l kvs q, x = .loc l ∧ keyD k = some q ∧ st[l]? = some (.dk kvs) ∧ kvs.length < sizeLine ∧ setitem x k d st = .ok () (st.set l (.dk (dput kvs q d)))) ∨
    (∃ l q, x = .loc l ∧ pkS k = some q ∧ st[l]? = some (.dk []) ∧ setitem x k d st = .ok () (st.set l (.dt [(q, d)]))) ∨
    (∃ l kvs q, x = .loc l ∧ pkS k = some q ∧ st[l]? = some (.dt kvs) ∧ kvs.length < sizeLine ∧ setitem x k d st = .ok () (st.set l (.dt (dput kvs q d)))) ∨ setitem x k d st = .fault := by
  have no : ∀ {A B C D : Prop} {x : R Unit}, x = .fault → A ∨ B ∨ C ∨ D ∨ x = .fault := fun h => .inr (.inr (.inr (.inr h)))
  unfold setitem
  split
  · next l =>
    split
    · next xs hx =>
      split
      · next n =>
        split
        · next j hj => exact .inl ⟨l, n, xs, j, rfl, rfl, hx, hj, rfl⟩
        · exact no rfl
      · exact no rfl
    · next kvs hx =>
      split
      · next q hq =>
        split
        · next hz => exact .inr (.inl ⟨l, kvs, q, rfl, hq, hx, hz, rfl⟩)
        · exact no rfl
      · split
        · next e1 q hq => exact .inr (.inr (.inl ⟨l, q, rfl, hq, hx, rfl⟩))
        · exact no rfl
    · next kvs hx =>
      split
      · next q hq =>
        split
        · next hz => exact .inr (.inr (.inr (.inl ⟨l, kvs, q, rfl, hq, hx, hz, rfl⟩)))
        · exact no rfl
      · exact no rfl
    · exact no rfl
  · exact no rfl
/-- o[i] = v, a list's or a dict's -/
def rSetD : V → V → V → Hp → (Hp → Prop) → Prop := fun x y v H Q => rSetL x y v H Q ∨ (∃ a H', x = .ref a ∧ DPut H a y v H' ∧ Q H') ∨
  ∃ a b k, x = .ref a ∧ y = .ref b ∧ H a = some (.dK []) ∧ H b = some (.tup (k.map kV)) ∧ Q (upd H a (.dT [(k, v)]))
theorem set_dict (hu : X.A.units + 1 < cLine) : PSet X rSetD := by
  intro pins s σ H x y z v u w Q I rx ry rz h
  rcases h with h | ⟨a, H', rfl, g, q⟩ | ⟨a, b, k, rfl, rfl, e, eb, q⟩
  · exact set_list pins s σ H x y z v u w Q I rx ry rz h
  · cases (show v = Value.ref a from rx)
    exact d_setItem hu I g ry rz fun s' I' => ⟨H', I', q⟩
  · cases (show v = Value.ref a from rx)
    cases (show _ = Value.ref b from ry)
    exact d_setItem0 hu I e eb rz fun s' I' => ⟨_, I', q⟩
theorem tS_seti {fv fo fi : Env → Store → R Mi.D} (h : tSt K cls W (fun ρ st => (fv ρ st).toF ρ fun d st => (fo ρ st).toF ρ fun x st => (fi ρ st).toF ρ fun k st => (setitem x k d st).toF ρ fun _ st => .nx ρ st) D σ H) :
    tAsg (tE K cls W fv) (gSub (tE K cls W fo) (tE K cls W fi) rSetD) D σ H := by
  obtain ⟨m, ρ, st, hE, hS, hP⟩ := h
  refine tS_of hE hS hP fun d st1 m1 v H1 _ _ hE1 hS1 r1 hP1 => ?_
  refine tS_of hE1 hS1 hP1 fun x st2 m2 o H2 _ x2 hE2 hS2 r2 hP2 => ?_
  refine tS_of hE2 hS2 hP2 fun k st3 m3 i H3 _ x3 hE3 hS3 r3 hP3 => ?_
  have r2 := r2.mono hS2.cells x3
  have r1 := (r1.mono hS1.cells x2).mono hS2.cells x3
  rcases setitem_or x k d st3 with ⟨l, n, xs, j, rfl, rfl, hx, hj, e⟩ | ⟨l, kvs, q, rfl, hq, hx, hz, e⟩ | ⟨l, q, rfl, hq, hx, e⟩ | ⟨l, kvs, q, rfl, hq, hx, hz, e⟩ | e
  · rw [e] at hP3
    cases r3
    cases r2 with
    | loc hl =>
      obtain ⟨vs, hv, rv⟩ := hS3.cell l _ _ hl hx
      refine .inl ⟨_, vs, n, j, rfl, rfl, hv, by rw [← rv.length]; exact hj, ?_⟩
      exact hP3 m3 σ _ (Ext.write hl) (hS3.write hl (RDs.set r1 j rv)) (hE3.mono hS3.cells (Ext.write hl))
  · rw [e] at hP3
    cases key_ok r3 hq
    cases r2 with
    | loc hl =>
      obtain ⟨ws, hv, kk, rv⟩ := hS3.cell l _ _ hl hx
      have kr : KVR K H3 m3 kvs ws := ⟨kk, rv⟩
      refine .inr (.inl ⟨_, _, rfl, .k hv (by rw [kr.length]; exact hz), ?_⟩)
      exact hP3 m3 σ _ (Ext.write hl) (hS3.writeD hl (kr.put r1)) (hE3.mono hS3.cells (Ext.write hl))
  · rw [e] at hP3
    obtain ⟨b, rfl, eb, _⟩ := pk_ok r3 hq
    cases r2 with
    | loc hl =>
      obtain ⟨ws, hv, kk, rv⟩ := hS3.cell l _ _ hl hx
      have kr : KVR K H3 m3 ([] : List (Key × Mi.D)) ws := ⟨kk, rv⟩
      cases kr.nil_inv
      refine .inr (.inr ⟨_, b, q, rfl, rfl, hv, eb, ?_⟩)
      exact hP3 m3 σ _ (Ext.write hl) (hS3.writeT hl (by simp) (KVR.nil.cons r1)) (hE3.mono hS3.cells (Ext.write hl))
  · rw [e] at hP3
    obtain ⟨b, rfl, eb, _⟩ := pk_ok r3 hq
    cases r2 with
    | loc hl =>
      obtain ⟨ws, nn, hv, kk, rv⟩ := hS3.cell l _ _ hl hx
      have kr : KVR K H3 m3 kvs ws := ⟨kk, rv⟩
      refine .inr (.inl ⟨_, _, rfl, .t hv eb (by rw [kr.length]; exact hz), ?_⟩)
      exact hP3 m3 σ _ (Ext.write hl) (hS3.writeT hl (mergeP_ne [(q, v)] ws (.inl nn)) (kr.put r1)) (hE3.mono hS3.cells (Ext.write hl))
  · rw [e] at hP3
    exact False.elim hP3
theorem tS_for {fi : Env → Store → R (List Mi.D × Option Src)} {fb : Env → Store → F} {tg : List Nat} {one : Bool} (h : tSt K cls W (fun ρ st => (fi ρ st).toF ρ fun w st => loopF (fun s => stands s w.1 w.2) (fun x ρ s => match bindT tg one s x ρ with
    | some ρ1 => fb ρ1 s
    | none => .fault) w.1 ρ st) D σ H) : tFor (tW K cls W fi) (gD K tg one) (tSt K cls W fb) D σ H := by
  obtain ⟨m, ρ, st, hE, hS, hP⟩ := h
  refine tS_of hE hS hP fun w st1 m1 J H1 _ _ hE1 hS1 r1 hP1 => ?_
  obtain ⟨xs, src⟩ := w
  obtain ⟨L, hL, hW⟩ := r1
  simp only at hW hP1
  let Inv0 : Nat → L2.St → Hp → Prop := fun i σ Hc => i ≤ xs.length ∧ ∃ m2 ρ2 st2, Ext H1 Hc m1 m2 ∧ SimE K Hc m2 ρ2 σ ∧ SimS K Hc m2 st2 ∧ L m2 Hc ∧ PostF K cls W m1 H1 D (loopF (fun s => stands s xs src) (fun x ρ s => match bindT tg one s x ρ with
    | some ρ1 => fb ρ1 s
    | none => .fault) (xs.drop i) ρ2 st2)
  refine ⟨fun i k σ Hc => k = xs.length - i ∧ Inv0 i σ Hc, ⟨xs.length, by simp, Nat.zero_le _, m1, ρ, st1, Ext.refl, hE1, hS1, hL, hP1⟩, ?_⟩
  rintro i k σ2 Hc ⟨rfl, hi, m2, ρ2, st2, x2, hE2, hS2, hL2, hP2⟩
  by_cases hlt : i < xs.length
  · refine .inr ?_
    have ed : xs.drop i = xs[i] :: xs.drop (i + 1) := List.drop_eq_getElem_cons hlt
    rw [ed] at hP2
    unfold loopF at hP2
    by_cases hck : stands st2 xs src
    · rw [if_pos hck] at hP2
      refine ⟨hW.go hS2 hck hL2 hlt, Inv0 (i + 1), fun σ' Hn q => ⟨xs.length - (i + 1), by omega, rfl, q⟩, fun x H3 hy => ?_⟩
      obtain ⟨d, hd, x3, hS3, rd⟩ := hW.yld hS2 hck hL2 hlt hy
      have hdx : xs[i] = d := by rw [List.getElem?_eq_getElem hlt] at hd; exact Option.some.inj hd
      rw [hdx] at hP2
      have hE3 := hE2.mono hS2.cells x3
      have hL3 := hW.mono x3 hS2.cells hL2
      cases eb : bindT tg one st2 d ρ2 with
      | none => rw [eb] at hP2; exact False.elim hP2
      | some ρ1 =>
        rw [eb] at hP2
        simp only at hP2
        refine ⟨m2, ρ2, st2, d, hE3, hS3, rd, ρ1, eb, fun vs hE4 => ⟨m2, ρ1, st2, hE4, hS3, ?_⟩⟩
        cases er : fb ρ1 st2 with
        | nx ρ4 st4 =>
          rw [er] at hP2
          exact fun m' σ' H' x hS' hE' => ⟨hlt, m', ρ4, st4, x2.trans (x3.trans x), hE', hS', hW.mono x hS3.cells hL3, hP2⟩
        | ct ρ4 st4 =>
          rw [er] at hP2
          exact fun m' σ' H' x hS' hE' => ⟨hlt, m', ρ4, st4, x2.trans (x3.trans x), hE', hS', hW.mono x hS3.cells hL3, hP2⟩
        | rt d s => rw [er] at hP2; exact PostF.shift (r := .rt d s) (D := D) hP2 (x2.trans x3)
        | exc c ρ s => rw [er] at hP2; exact PostF.shift (r := .exc c ρ s) (D := D) hP2 (x2.trans x3)
        | fault => rw [er] at hP2; exact hP2
    · rw [if_neg hck] at hP2; exact False.elim hP2
  · refine .inl ?_
    have e : i = xs.length := by omega
    subst e
    rw [List.drop_length] at hP2
    unfold loopF at hP2
    by_cases hck : stands st2 xs src
    · rw [if_pos hck] at hP2
      exact ⟨hW.stop hS2 hck hL2, hP2 m2 σ2 Hc x2 hS2 hE2⟩
    · rw [if_neg hck] at hP2; exact False.elim hP2
theorem whileF_get {c : Env → Store → R Bool} {b : Env → Store → F} (h : whileF c b ρ st ≠ .fault) : ∃ n, whileN c b n ρ st = some (whileF c b ρ st) := by
  unfold whileF at h ⊢
  split at h
  · next hh => rw [dif_pos hh]; exact ⟨_, hh.choose_spec.choose_spec⟩
  · exact absurd rfl h
theorem tS_while {c : Env → Store → R Bool} {b : Env → Store → F} (h : tSt K cls W (fun ρ st => whileF c b ρ st) D σ H) : tWhile (tT K cls W c) (tSt K cls W b) D σ H := by
  obtain ⟨m, ρ, st, hE, hS, hP⟩ := h
  dsimp only at hP
  obtain ⟨n0, e0⟩ := whileF_get (c := c) (b := b) (ρ := ρ) (st := st) fun e => by rw [e] at hP; exact hP
  refine ⟨fun k σ Hc => ∃ m2 ρ2 st2 r, Ext H Hc m m2 ∧ SimE K Hc m2 ρ2 σ ∧ SimS K Hc m2 st2 ∧ whileN c b k ρ2 st2 = some r ∧ PostF K cls W m H D r, ⟨n0, m, ρ, st, _, Ext.refl, hE, hS, e0, hP⟩, ?_⟩
  rintro k σ2 Hc ⟨m2, ρ2, st2, r, x2, hE2, hS2, e2, hP2⟩
  cases k with
  | zero => cases e2
  | succ k =>
    unfold whileN at e2
    refine ⟨m2, ρ2, st2, hE2, hS2, ?_⟩
    cases ec : c ρ2 st2 with
    | exc x s => rw [ec] at e2; cases e2; exact fun m' H' x hS' => hP2 m' σ2 H' (x2.trans x) hS' (hE2.mono hS2.cells x)
    | fault => rw [ec] at e2; cases e2; exact hP2
    | ok t s =>
      rw [ec] at e2
      intro m3 v H3 x3 hS3 rv
      have rv : t = v := rv
      subst rv
      have hE3 := hE2.mono hS2.cells x3
      cases t with
      | false => cases e2; exact hP2 m3 σ2 H3 (x2.trans x3) hS3 hE3
      | true =>
        simp only at e2
        rw [if_pos rfl]
        refine ⟨fun σ' H' => ∃ m4 ρ4 st4 r, Ext H H' m m4 ∧ SimE K H' m4 ρ4 σ' ∧ SimS K H' m4 st4 ∧ whileN c b k ρ4 st4 = some r ∧ PostF K cls W m H D r, fun σ' H' q => ⟨k, Nat.lt_succ_self _, q⟩, m3, ρ2, s, hE3, hS3, ?_⟩
        cases eb : b ρ2 s with
        | nx ρ4 st4 => rw [eb] at e2; exact fun m' σ' H' x hS' hE' => ⟨m', ρ4, st4, r, x2.trans (x3.trans x), hE', hS', e2, hP2⟩
        | ct ρ4 st4 => rw [eb] at e2; exact fun m' σ' H' x hS' hE' => ⟨m', ρ4, st4, r, x2.trans (x3.trans x), hE', hS', e2, hP2⟩
        | rt d s => rw [eb] at e2; cases e2; exact PostF.shift (r := .rt d s) (D := D) hP2 (x2.trans x3)
        | exc c ρ s => rw [eb] at e2; cases e2; exact PostF.shift (r := .exc c ρ s) (D := D) hP2 (x2.trans x3)
        | fault => rw [eb] at e2; cases e2; exact hP2
end
end Mi
/-! MiXt: try: body, except X (as n): suite; the caught exception is tracked, within the suite and behind it. -/
namespace Mi
open PySem PySem.Spec L2 PyProof.Rows
/-- an exception's object, as far as it stays -/
def ExO (cls : Value) (a : Addr) : Heap → Prop := fun h => ∃ oe, h.get? a = some oe ∧ Zc cls none oe ∧ ∃ vs, oe.data = .fields vs
section
variable {X : Cx} {pins : List (Addr × Obj)} {σ : L2.St} {H : Hp} {s : Shared}
theorem inv_hot (I : L2.Inv X pins σ H s) (a : Addr) : L2.Inv (X.suite a (X.pn ++ pins)) [] σ H s :=
  ⟨I.ok.suite _ _, I.os, I.bare, I.base, I.loc, I.cell, I.free, I.freeC, fun p hp => I.pin p (by simpa using hp), I.hok, I.len⟩
theorem inv_cool {a : Addr} {pn' : List (Addr × Obj)} (I : L2.Inv (X.suite a (X.pn ++ pins)) pn' σ H s) (ok : X.Ok) : L2.Inv X pins σ H s :=
  ⟨ok, I.os, I.bare, I.base, I.loc, I.cell, I.free, I.freeC, fun p hp => I.pin p (List.mem_append_left _ hp), I.hok, I.len⟩
/-- back on the ground, the exception's object tracked -/
theorem landed_ext {sI s' : Shared} {B : Heap} {a : Addr} {cls : Value} (I : L2.Inv X pins σ H sI) (nb : ∀ b o, sI.heap.get? b = some o → b ∉ frs X.stack → B.get? b = some o) (st : B.StaysIn s'.heap) (up : sI.heap.UpToSlots s'.heap)
    (os : s'.os = sI.os) (ag : AllBare s'.gens) (na : H a = none) (nB : B.get? a = none) (nfr : a ∉ frs X.stack) (x : ExO cls a s'.heap) : L2.Inv X pins σ (upd H a (.ext (ExO cls a))) s' := by
  have J := I.landed nb st up os ag
  have ne : ∀ b o, H b = some o → b ≠ a := fun b o e => ne_of_none e na
  have hok : HOk X.prog X.w (upd H a (.ext (ExO cls a))) s'.heap := fun b u e => by
    by_cases hb : b = a
    · subst hb
      rw [upd_same] at e; cases e
      refine ⟨x, let ⟨oe, h, _⟩ := x; ⟨oe, h⟩, fun h1 h2 ⟨oe, p, q⟩ k => ⟨oe, k _ p, q⟩⟩
    · rw [upd_ne hb] at e
      exact (J.hok b u e).stay (fun _ _ _ q => q) (fun c q => by rw [upd_ne (ne c _ q)]; exact q) fun c ys q => by rw [upd_ne (ne c _ q)]; exact q
  have out : ∀ b o, sI.heap.get? b = some o → b ≠ a := fun b o e z => by
    subst z
    have := nb b o e nfr
    rw [nB] at this; cases this
  have fr : ∀ b ∈ frs X.stack, ∀ o, sI.heap.get? b = some o → ∃ sl, s'.heap.get? b = some { o with slots := sl } := fun b hb o e => by
    obtain ⟨_, o', e', hd⟩ := I.stack.mem hb
    rw [e] at e'; cases e'
    exact up b o e hd
  have un : Un (frs X.stack) [] H (upd H a (.ext (ExO cls a))) sI.heap s'.heap :=
    { keep := fun b o e _ hb _ => st b o (nb b o e hb)
      slot := fun b o e _ hb _ => fr b hb o e
      free := fun b o e n _ => by rw [upd_ne (out b o e)]; exact n
      there := fun b o e _ => by
        by_cases hb : b ∈ frs X.stack
        · obtain ⟨sl, q⟩ := fr b hb o e
          exact ⟨_, q⟩
        · exact ⟨o, st b o (nb b o e hb)⟩
      tups := fun b xs e => by rw [upd_ne (ne b _ e)]; exact e
      frzs := fun b o u e => by rw [upd_ne (ne b _ e)]; exact e
      tbls := fun b ps e => ⟨#[], by rw [upd_ne (ne b _ e), e]; simp⟩ }
  exact I.call' os un hok ag fun _ z => nomatch z
/-- what is wanted of an exception of the body: it is caught -/
def wK (K : PySem.W.Frag) (c : Value) (nm : List Nat) (ts : Addr → TS) (D : Ends) : WX := fun cls d σ H => d = none ∧ PySem.W.exmOne K cls c = some true ∧
  ∀ a, H a = none → ts a { nx := fun σ' H' => D.nx (L2.wipe σ' nm) H', rt := D.rt, bk := fun σ' H' => D.bk (L2.wipe σ' nm) H', ct := fun σ' H' => D.ct (L2.wipe σ' nm) H' } (nm.foldl (fun σ i => σ.set i (some (.ref a))) σ) (upd H a (.ext (ExO cls a)))
/-- the clause's name: none, or a local one -/
def NmOk (X : Cx) : Option Str → List Nat → Prop
  | none, nm => nm = []
  | some n, nm => ∃ i, nm = [i] ∧ X.N[i]? = some n ∧ X.env.kindOf n = some .local
end
section
variable {X : Cx} {x : Str} {c : Value} {nm : List Nat} {on : Option Str} {body suite : List Stmt} {more : List ExceptHandler} {b₀ : Stmt} {np pos pos' : Pos} {tb : WX → TS} {ts : Addr → TS}
/-- the way from an exception in the air to the suite's end -/
theorem to_suite (hs : X.stack = X.env :: X.outer) (hf : X.env.frame = some X.env.locals) (hN : X.N.Nodup) (hn : NmOk X on nm) (hc : Names X x c) (hsu : ∀ (a : Addr) (pn : List (Addr × Obj)), PSs (X.suite a pn) (b₀ :: suite) (ts a))
    {D : Ends} {pins : List (Addr × Obj)} {u : Value} {s' : Shared} (ok : X.Ok) (air : XE (X.tr (X.pn ++ pins) (fun e s₁ => wpAny (model X.prog X.w) X.A (noteFrame e X.env) (fun _ s₂ => wpAny (model X.prog X.w) X.A (setFlight e none) (fun _ s₃ =>
      wpAny (model X.prog X.w) X.A (handleBy e X.env (.ExceptHandler (some (.Name x np)) on (b₀ :: suite) pos' :: more)) (SP X pins D) X.xe s₃) X.xe s₂) X.xe s₁)) (wK X.K c nm ts D) u s') :
    wpAny (model X.prog X.w) X.A (noteFrame u X.env) (fun _ s₂ => wpAny (model X.prog X.w) X.A (setFlight u none) (fun _ s₃ =>
      wpAny (model X.prog X.w) X.A (handleBy u X.env (.ExceptHandler (some (.Name x np)) on (b₀ :: suite) pos' :: more)) (SP X pins D) X.xe s₃) X.xe s₂) X.xe s' := by
  obtain ⟨a, B, sI, pins', σ', H', cls, d, rfl, J', nb, up, sky, na, os, ag, rfl, hm1, go⟩ := air
  have J : L2.Inv X pins σ' H' sI := J'.ofTry ok
  have fr1 : X.A.frames = some (X.env :: X.outer) := hs ▸ ok.frames
  have sky1 : Sky B (X.env :: X.outer) a (Zc cls none) X.env.locals s'.heap := hs ▸ sky
  refine Sky.land Zc.steady fr1 hf sky1 fun h3 fl3 up3 => ?_
  obtain ⟨oe3, vs3, at3, z3, d3⟩ := fl3.there
  have nfr : a ∉ frs X.stack := fun hm => by
    rw [hs] at hm
    obtain ⟨_, o, e, no⟩ := fl3.2.2.1.mem hm
    rw [at3] at e; cases e
    exact no _ d3
  have up13 : sI.heap.UpToSlots h3 := up.trans up3
  have T3 : L2.Inv X pins σ' (upd H' a (.ext (ExO cls a))) { s' with heap := h3 } := landed_ext J nb fl3.1 up13 os ag na fl3.2.1 nfr ⟨oe3, at3, z3, vs3, d3⟩
  refine wpAny_handleBy_cons (codeAny_handlers_test ?_) (by intro q; cases q)
  have S3 := inv_hot T3 a
  have look : PySem.W.Looks (model X.prog X.w) h3 (typeOf (.ref a)) cls := fun A Q E s k q => wpAny_typeOf_ref (k _ _ at3) (z3.1.symm ▸ q)
  have isIt := PySem.W.exm_one (M := model X.prog X.w) T3.kIn look hm1
  have named : ∀ {Q E : Value → Shared → Prop}, Q c { s' with heap := h3 } → wpAny (model X.prog X.w) (X.A.mark (some (.ref a))) (eval (.Name x np) X.env) Q E { s' with heap := h3 } := fun {Q E} q => by
    obtain ⟨g1, g2, g3⟩ := hc
    rcases g3 with g3 | ⟨g3, g4, g5⟩
    · exact ld_glob (X := X.suite a (X.pn ++ pins)) S3 g1 g3 q g2
    · exact ld_blt (X := X.suite a (X.pn ++ pins)) S3 g1 g3 g4 q g5 g2
  refine named (isIt.here ?_)
  have run4 : ∀ {on' : Option Str} {h4 : Heap} {R : Flow → Shared → Prop}, HandSPX.FlyingZ B (X.env :: X.outer) a (Zc cls none) h4 → h3.UpToSlots h4 → (∀ s4, L2.Inv X pins σ' (upd H' a (.ext (ExO cls a))) s4 → s4 = { s' with heap := h4 } → R .next s4) → R .next { s' with heap := h4 } := fun {on' h4 R} fl4 up4 k => by
    obtain ⟨oe4, vs4, at4, z4, d4⟩ := fl4.there
    exact k _ (landed_ext J nb fl4.1 (up13.trans up4) os ag na fl4.2.1 nfr ⟨oe4, at4, z4, vs4, d4⟩) rfl
  cases on with
  | none =>
    obtain rfl : nm = [] := hn
    refine codeAny_handlers_suite (HandSPX.lands_againZ fl3 fun h4 fl4 up4 => ?_)
    refine run4 (R := fun _ s4 => wpAny (model X.prog X.w) (X.A.mark (some (.ref a))) (execs (b₀ :: suite) X.env) _ _ s4) (on' := none) fl4 up4 fun s4 T4 e4 => ?_
    subst e4
    refine wpAny_mono ((hsu a (X.pn ++ pins)).run [] _ _ _ _ (inv_hot T4 a) (go a na)) (fun f s6 h6 => ?_) fun _ _ z => z.elim
    cases f with
    | ret v => obtain ⟨v6, σ6, H6, S6, r6, q6⟩ := h6; exact ⟨v6, σ6, H6, inv_cool S6 ok, r6, q6⟩
    | next => obtain ⟨σ6, H6, S6, q6⟩ := h6; exact ⟨σ6, H6, inv_cool S6 ok, q6⟩
    | brk => obtain ⟨σ6, H6, S6, q6⟩ := h6; exact ⟨σ6, H6, inv_cool S6 ok, q6⟩
    | cont => obtain ⟨σ6, H6, S6, q6⟩ := h6; exact ⟨σ6, H6, inv_cool S6 ok, q6⟩
  | some n =>
    obtain ⟨i, rfl, hi, hl⟩ := hn
    refine codeAny_handlers_suite_as (HandSPX.lands_againZ fl3 fun h4 fl4 up4 => ?_)
    refine run4 (R := fun _ s4 => wpAny (model X.prog X.w) (X.A.mark (some (.ref a))) (storeName X.env n (.ref a)) _ _ s4) (on' := none) fl4 up4 fun s4 T4 e4 => ?_
    subst e4
    refine store_ok (X := X.suite a (X.pn ++ pins)) (v := .ref a) (inv_hot T4 a) hN hi (.inl hl) rfl (fun s5 S5 => ?_) (.inr hl)
    refine wpAny_mono ((hsu a (X.pn ++ pins)).run [] s5 _ _ _ S5 (go a na)) (fun f s6 h6 => ?_) fun _ _ z => z.elim
    have bye : ∀ {σ6 : L2.St} {H6 : Hp} {R : Shared → Prop}, L2.Inv (X.suite a (X.pn ++ pins)) [] σ6 H6 s6 → (∀ s7, L2.Inv X pins (L2.wipe σ6 [i]) H6 s7 → R s7) →
        wpAny (model X.prog X.w) X.A (do bindName X.env n .none; unbindBehindTheSuite X.env n pos') (fun _ s7 => R s7) X.xe s6 := fun S6 k => gone_ok (inv_cool S6 ok) hN hi hl k
    cases f with
    | ret v => obtain ⟨v6, σ6, H6, S6, r6, q6⟩ := h6; exact bye S6 fun s7 J7 => ⟨v6, _, H6, J7, r6, q6⟩
    | next => obtain ⟨σ6, H6, S6, q6⟩ := h6; exact bye S6 fun s7 J7 => ⟨_, H6, J7, q6⟩
    | brk => obtain ⟨σ6, H6, S6, q6⟩ := h6; exact bye S6 fun s7 J7 => ⟨_, H6, J7, q6⟩
    | cont => obtain ⟨σ6, H6, S6, q6⟩ := h6; exact bye S6 fun s7 J7 => ⟨_, H6, J7, q6⟩
theorem ps_tryK (hs : X.stack = X.env :: X.outer) (hf : X.env.frame = some X.env.locals) (hN : X.N.Nodup) (hn : NmOk X on nm) (hc : Names X x c)
    (hb : ∀ (W : WX) (pn : List (Addr × Obj)) (xe : Value → Shared → Prop), Takes (X.tr pn xe) W → PassesOwn (model X.prog X.w) X.A X.env xe → PSs (X.tr pn xe) body (tb W))
    (hsu : ∀ (a : Addr) (pn : List (Addr × Obj)), PSs (X.suite a pn) (b₀ :: suite) (ts a)) :
    PS X (.Try body (.ExceptHandler (some (.Name x np)) on (b₀ :: suite) pos' :: more) [] [] pos) (fun D σ H => tb (wK X.K c nm ts D) D σ H) := by
  refine ⟨fun pins s σ H D I h => wpAny_Try_except ?_⟩
  have ok := I.ok
  have B := hb (wK X.K c nm ts D) (X.pn ++ pins) _ (fun u s' air => to_suite (pos' := pos') (np := np) (more := more) hs hf hN hn hc hsu ok air) PassesOwn.looking
  refine wpAny_mono (B.run [] s σ H D (I.toTry _) h) (fun f s1 h1 => ?_) fun _ _ z => z
  cases f with
  | ret v => obtain ⟨w, σ', H', J, r, q⟩ := h1; exact ⟨w, σ', H', J.ofTry ok, r, q⟩
  | next => obtain ⟨σ', H', J, q⟩ := h1; exact wpAny_execs_nil ⟨σ', H', J.ofTry ok, q⟩
  | brk => obtain ⟨σ', H', J, q⟩ := h1; exact ⟨σ', H', J.ofTry ok, q⟩
  | cont => obtain ⟨σ', H', J, q⟩ := h1; exact ⟨σ', H', J.ofTry ok, q⟩
end
end Mi
/-! MiL: which statement is which term, and that its run is its term's meaning. -/
namespace Mi
open PySem PySem.Spec L2

def lcOk (sc : Scope) (x : Str) (p : Pos) : Expr → Bool
  | .ListComp _ _ scope p' => cellB sc x || locB sc x && (p.line == p'.line) && !(scope.names.any fun (n, k) => n == x && (k == .local || k == .cell))
  | .SetComp _ _ _ _ => false
  | .DictComp _ _ _ _ _ => false
  | _ => true
def noComp : Expr → Bool
  | .ListComp _ _ _ _ => false
  | .SetComp _ _ _ _ => false
  | .DictComp _ _ _ _ _ => false
  | _ => true
def notTup : Expr → Bool
  | .Tuple _ _ _ => false
  | _ => true
def notStar : Expr → Bool
  | .Starred _ _ => false
  | _ => true
def parB (N : List Str) (sc : Scope) (i j : Nat) (x y : Str) (px py : Pos) (a b : Expr) : Bool :=
  isName N i x && isName N j y && locB sc x && locB sc y && decide (i ≠ j) && (px.line == py.line) && ([x, y].eraseDups.length == 2) && notStar a && notStar b && !([a, b].all (foldedForSure 8)) && !([a, b].all (constantsAlone 8))
/-- the name of an except clause -/
def nmB (N : List Str) (sc : Scope) : Option Str → List Nat → Bool
  | none, [] => true
  | some n, [i] => isName N i n && locB sc n
  | _, _ => false
def isTxt : E → Bool
  | .cst (.str _) => true
  | _ => false
def xsIs (xs ys : List Nat) : Bool := decide (xs = ys)
mutual
def chkS : Tab → List Str → Scope → S → Stmt → Bool
  | T, N, sc, .asg i e, s => (match s with | .Assign [.Name x p] v _ => isName N i x && (locB sc x || cellB sc x) && lcOk sc x p v && chkE T N sc e v | _ => false)
  | T, N, sc, .unp is e, s => !T.hot && (match s with | .Assign [.Tuple es k p] v _ => chkTg (fun _ => true) N sc is false (.Tuple es k p) && notTup v && noComp v && chkE T N sc e v | _ => false)
  | T, N, sc, .par is es, s => !T.hot && (match s with | .Assign [.Tuple [.Name x px, .Name y py] _ _] (.Tuple [a, b] _ _) _ => (match is with | [i, j] => parB N sc i j x y px py a b && chkEs T N sc es [a, b] | _ => false) | _ => false)
  | T, N, sc, .seti o i v, s => (match s with | .Assign [.Subscript x y _] w _ => notSlice y && chkE T N sc o x && chkE T N sc i y && chkE T N sc v w | _ => false)
  | T, N, sc, .exp e, s => (match s with | .Expr v _ => noComp v && chkE T N sc e v | _ => false)
  | T, N, sc, .ret e, s => (match s with | .Return (some v) _ => chkE T N sc e v | _ => false)
  | _, _, _, .ret0, s => (match s with | .Return none _ => true | _ => false)
  | T, N, sc, .iff c a b, s => (match s with | .If x p q _ => chkE T N sc c x && chkSs T N sc a p && chkSs T N sc b q | _ => false)
  | T, N, sc, .forr tg one it b, s => !T.hot && (match s with | .For t x p [] _ => chkI T N sc one it x && chkTg (fun _ => true) N sc tg one t && chkSs T N sc b p | _ => false)
  | T, N, sc, .whl c b, s => (match s with | .While x p [] _ => chkE T N sc c x && chkSs T N sc b p | _ => false)
  | T, N, sc, .rais c e, s => !T.hot && (match s with | .Raise (some (.Call (.Name x _) [.Constant (.str _) _ _] [] _)) none _ => isTxt e && c != 9 && clsIs T.xs sc c x | _ => false)
  | T, N, sc, .tri b xs cs nm h, s => !T.hot && (match s with
    | .Try p (.ExceptHandler (some (.Name x _)) on (q :: qs) _ :: _) [] [] _ => xsIs xs T.xs && cs != 9 && clsIs T.xs sc cs x && nmB N sc on nm && chkSs T N sc b p && chkSs { T with hot := true } N sc h (q :: qs)
    | _ => false)
  | _, _, _, .dead, _ => true
  | _, _, _, .cont, s => (match s with | .Continue _ => true | _ => false)
  | _, _, _, .pass, s => (match s with | .Pass _ => true | .Expr (.Constant (.str _) _ _) _ => true | _ => false)
def chkSs : Tab → List Str → Scope → List S → List Stmt → Bool
  | _, _, _, [], xs => (match xs with | [] => true | _ => false)
  | T, N, sc, s :: ss, xs => (match xs with | x :: xs => chkS T N sc s x && chkSs T N sc ss xs | _ => false)
end

structure GoodS (T : Tab) (n : Nat) (cls : Nat → Value) (N : List Str) (X : Cx) (W : WX) : Prop where
  good : Good T n cls N X
  tk : Takes X W
  own : PassesOwn (model X.prog X.w) X.A X.env X.xe
  fn : ∀ x, X.fn x = true
  stk : X.stack = X.env :: X.outer
  fr : X.env.frame = some X.env.locals
theorem PS.imp {X : Cx} {s : Stmt} {t t' : TS} (h : PS X s t) (hi : ∀ D σ H, t' D σ H → t D σ H) : PS X s t' := ⟨fun pins s σ H D I q => h.run pins s σ H D I (hi D σ H q)⟩
theorem PSs.imp {X : Cx} {s : List Stmt} {t t' : TS} (h : PSs X s t) (hi : ∀ D σ H, t' D σ H → t D σ H) : PSs X s t' := ⟨fun pins s σ H D I q => h.run pins s σ H D I (hi D σ H q)⟩
theorem nolc_sw {v : Expr} {t : Option Expr} {l : Nat} {env : PySem.Env} (h : noComp v = true) : swapsWith v t l env = pure false := by
  cases v <;> first | rfl | cases h
theorem cell_sw {y : Expr} {gs : List Comprehension} {scope : Scope} {p p' : Pos} {x : Str} {l : Nat} {env : PySem.Env} (h : env.kindOf x = some .cell) : swapsWith (.ListComp y gs scope p') (some (.Name x p)) l env = pure false := by
  have e : swapsWith (.ListComp y gs scope p') (some (.Name x p)) l env = pure (env.blockKind == .function && env.kindOf x == some .local && p.line == (Expr.ListComp y gs scope p').pos.line && !(scope.names.any fun (n, k) => n == x && (k == .local || k == .cell))) := rfl
  rw [e, h]
  have k : (some NameKind.cell == some NameKind.local) = false := by decide
  rw [k]; simp
theorem sole_sw {v x : Expr} {l : Nat} {env : PySem.Env} (h : noComp v = true) : swapsWithSole [x] v l env = pure false := nolc_sw h
theorem nottup_sw {v x : Expr} {env : PySem.Env} (h : notTup v = true) : swappedStores [x] v env = pure none := by
  cases v <;> first | rfl | (cases x <;> rfl) | cases h
theorem par_sw {N : List Str} {i j : Nat} {x y : Str} {px py pt pt2 : Pos} {kt k2 : Nat} {a b : Expr} {env : PySem.Env} (hk : env.scope.kind = .function) (h : parB N env.scope i j x y px py a b = true) :
    swappedStores [.Tuple [.Name x px, .Name y py] kt pt] (.Tuple [a, b] k2 pt2) env = pure (some [x, y]) := by
  simp only [parB, Bool.and_eq_true, Bool.not_eq_true', beq_iff_eq] at h
  obtain ⟨⟨⟨⟨⟨⟨⟨⟨⟨⟨h1, h2⟩, h3⟩, h4⟩, h5⟩, h6⟩, h7⟩, h8⟩, h9⟩, h10⟩, h11⟩ := h
  have kx : env.kindOf x = some .local := locB_loc h3
  have ky : env.kindOf y = some .local := locB_loc h4
  have hb : env.blockKind = .function := by unfold Env.blockKind; rw [hk]; rfl
  have h7' : [x, y].eraseDups.length = 2 := h7
  unfold swappedStores
  simp [hb, kx, ky, h6, h10, h11, h7', List.any_cons, Expr.pos]
  rintro (h | h)
  · cases a <;> first | (cases h; done) | (cases h8; done)
  · cases b <;> first | (cases h; done) | (cases h9; done)

/-! ### soundness -/
section
variable {n : Nat} {cls : Nat → Value} {N : List Str} {X : Cx} {W : WX}
structure OkS (n : Nat) (cls : Nat → Value) (N : List Str) (s : S) : Prop where
  run : ∀ {T : Tab} {X : Cx} {W : WX} (G : GoodS T n cls N X W) (st : Stmt), chkS T N X.env.scope s st = true → PS X st (tSt X.K cls W (ex (callN T.T n) s))
theorem unf {K : PySem.W.Frag} {f g : Env → Store → F} (h : ∀ ρ st, f ρ st = g ρ st) {D : Ends} {σ : L2.St} {H : Hp} (q : tSt K cls W f D σ H) : tSt K cls W g D σ H := by
  obtain ⟨m, ρ, st, hE, hS, hP⟩ := q
  exact ⟨m, ρ, st, hE, hS, by rw [← h]; exact hP⟩
theorem okSs : ∀ {ss : List S} (_ : ∀ s ∈ ss, OkS n cls N s) {T : Tab} {X : Cx} {W : WX} (G : GoodS T n cls N X W) (xs : List Stmt), chkSs T N X.env.scope ss xs = true → PSs X xs (tSt X.K cls W (exs (callN T.T n) ss))
  | [], _, T, X, W, G, [], h => PSs.imp pss_nil fun D σ H q => tS_next (unf (fun ρ st => by unfold exs; rfl) q)
  | [], _, T, X, W, G, _ :: _, h => by unfold chkSs at h; cases h
  | _ :: _, _, T, X, W, G, [], h => by unfold chkSs at h; cases h
  | s :: ss, I, T, X, W, G, x :: xs, h => by
    unfold chkSs at h
    simp only [Bool.and_eq_true] at h
    exact PSs.imp (pss_cons ((I s (.head _)).run G x h.1) (okSs (fun s h => I s (.tail _ h)) G xs h.2)) fun D σ H q => tS_seq (unf (fun ρ st => by rw [exs]) q)
theorem comp_of {T : Tab} {e : E} {y : Expr} {gs : List Comprehension} {scope : Scope} {p : Pos} {sc : Scope} (h : chkE T N sc e (.ListComp y gs scope p) = true) : ∃ fz own tg one it c elt, e = .comp fz own tg one it c elt := by
  cases e <;> first | exact ⟨_, _, _, _, _, _, _, rfl⟩ | (unfold chkE at h; cases h; done) | (unfold chkE at h; replace h := (hot_and h).2; cases h)
theorem okS_asg {i : Nat} {e : E} : OkS n cls N (.asg i e) := ⟨fun {T X W} G st h => by
  unfold chkS at h
  split at h
  · next x p v q =>
    simp only [Bool.and_eq_true, Bool.or_eq_true, isName, decide_eq_true_eq] at h
    obtain ⟨⟨⟨h1, h2⟩, h3⟩, h4⟩ := h
    have hN : X.N.Nodup := by rw [G.good.nm]; exact G.good.nd
    have hi : X.N[i]? = some x := by rw [G.good.nm]; exact h1
    have un : ∀ {D : Ends} {σ : L2.St} {H : Hp}, tSt X.K cls W (ex (callN T.T n) (.asg i e)) D σ H → tAsg (tE X.K cls W (ev (callN T.T n) e)) (gName i) D σ H := fun q => tS_set (unf (fun ρ st => by unfold ex; rfl) q)
    by_cases hc : noComp v = true
    · refine PS.imp (ps_set hN hi (h2.elim (fun h => .inl (locB_loc h)) fun h => .inr (cellB_cell h)) ((okAll e).pE G.good G.tk v h4) (nolc_sw hc) (.inl (G.fn x))) fun D σ H q => un q
    · cases v <;> first | exact absurd rfl hc | cases h3 | skip
      next y gs scope p' =>
        obtain ⟨fz, own, tg, one, it, c, elt, rfl⟩ := comp_of h4
        obtain ⟨y', t, i', cs, scope', p'', e1, p1, p2, ok, p3, p4, p5, p6⟩ := comp_parts (okAll it) (oksAll c) (okAll elt) G.good G.tk _ h4
        cases e1
        by_cases hcell : cellB X.env.scope x = true
        · exact PS.imp (ps_set hN hi (.inr (cellB_cell hcell)) ((okAll (.comp fz own tg one it c elt)).pE G.good G.tk _ h4) (cell_sw (cellB_cell hcell)) (.inl (G.fn x))) fun D σ H q => un q
        simp only [lcOk, hcell, Bool.false_or, Bool.and_eq_true, Bool.not_eq_true'] at h3
        obtain ⟨⟨l1, l2⟩, l3⟩ := h3
        refine ⟨fun pins s σ H D I q => (PS.imp (ps_setLc (G.good.calm (by unfold chkE at h4; exact (hot_and h4).1)) hN hi (locB_loc l1) (sw_true I.ok.kind (locB_loc l1) l2 l3) p1 ok p3 p4 p5 (fold_plain2 p2)) fun D σ H q => ?_).run pins s σ H D I q⟩
        exact p6 _ _ _ (un q)
  · cases h⟩
theorem okS_unp {is : List Nat} {e : E} : OkS n cls N (.unp is e) := ⟨fun {T X W} G st h => by
  unfold chkS at h
  have hh := (hot_and h).1
  replace h := (hot_and h).2
  split at h
  · next es k p v q =>
    simp only [Bool.and_eq_true] at h
    obtain ⟨⟨⟨h1, h2⟩, h3⟩, h4⟩ := h
    have hN : X.N.Nodup := by rw [G.good.nm]; exact G.good.nd
    exact PS.imp (ps_asg ((okAll e).pE G.good G.tk v h4) (pg_D (G.good.calm hh) hN G.good.nm (fun x _ => G.fn x) h1) (sole_sw h3) (nottup_sw h2)) fun D σ H q => tS_asg (unf (fun ρ st => by unfold ex; rfl) q)
  · cases h⟩
theorem okS_par {is : List Nat} {es : List E} : OkS n cls N (.par is es) := ⟨fun {T X W} G st h => by
  unfold chkS at h
  have hh := (hot_and h).1
  replace h := (hot_and h).2
  split at h
  · next x px y py k pt a b k2 pt2 q =>
    split at h
    · next i j =>
      simp only [Bool.and_eq_true] at h
      have hN : X.N.Nodup := by rw [G.good.nm]; exact G.good.nd
      have hp := h.1
      simp only [parB, Bool.and_eq_true, isName, decide_eq_true_eq] at hp
      obtain ⟨⟨⟨⟨⟨⟨⟨⟨⟨⟨h1, h2⟩, h3⟩, h4⟩, h5⟩, h6⟩, h7⟩, h8⟩, h9⟩, h10⟩, h11⟩ := hp
      refine ⟨fun pins s σ H D I q => (PS.imp (ps_par (i := i) (j := j) (G.good.calm hh) hN (by rw [G.good.nm]; exact h1) (by rw [G.good.nm]; exact h2) h5 (locB_loc h3) (locB_loc h4) (oks_pa (oksAll es) G.good G.tk _ h.2) (par_sw I.ok.kind h.1)) fun D σ H q => ?_).run pins s σ H D I q⟩
      exact tS_par (unf (fun ρ st => by unfold ex; rfl) q)
    · cases h
  · cases h⟩
theorem okS_seti {o i v : E} : OkS n cls N (.seti o i v) := ⟨fun {T X W} G st h => by
  unfold chkS at h
  split at h
  · next x y p w q =>
    simp only [Bool.and_eq_true] at h
    obtain ⟨⟨⟨h1, h3⟩, h4⟩, h5⟩ := h
    refine PS.imp (ps_asg ((okAll v).pE G.good G.tk w h5) (pg_sub ((okAll o).pE G.good G.tk x h3) ((okAll i).pE G.good G.tk y h4) (set_dict (by have := G.good.units; omega)) (fun v => by cases y <;> first | rfl | cases h1)) (by cases w <;> rfl) (by cases w <;> rfl)) fun D σ H q => tS_seti (unf (fun ρ st => by unfold ex; rfl) q)
  · cases h⟩
theorem okS_exp {e : E} : OkS n cls N (.exp e) := ⟨fun {T X W} G st h => by
  unfold chkS at h
  split at h
  · next v q =>
    simp only [Bool.and_eq_true] at h
    exact PS.imp (ps_expr ((okAll e).pE G.good G.tk v h.2) (nolc_sw h.1)) fun D σ H q => tS_drop (unf (fun ρ st => by unfold ex; rfl) q)
  · cases h⟩
theorem okS_ret {e : E} : OkS n cls N (.ret e) := ⟨fun {T X W} G st h => by
  unfold chkS at h
  split at h
  · next v q => exact PS.imp (ps_ret ((okAll e).pE G.good G.tk v h)) fun D σ H q => tS_ret (unf (fun ρ st => by unfold ex; rfl) q)
  · cases h⟩
theorem okS_ret0 : OkS n cls N .ret0 := ⟨fun {T X W} G st h => by
  unfold chkS at h
  split at h
  · exact PS.imp ps_retN fun D σ H q => tS_retN (unf (fun ρ st => by unfold ex; rfl) q)
  · cases h⟩
theorem okS_iff {c : E} {a b : List S} (ha : ∀ s ∈ a, OkS n cls N s) (hb : ∀ s ∈ b, OkS n cls N s) : OkS n cls N (.iff c a b) := ⟨fun {T X W} G st h => by
  unfold chkS at h
  split at h
  · next x p q r =>
    simp only [Bool.and_eq_true] at h
    exact PS.imp (ps_if ((okAll c).pT G.good G.tk x h.1.1) (okSs ha G p h.1.2) (okSs hb G q h.2)) fun D σ H q => tS_if (unf (fun ρ st => by unfold ex; rfl) q)
  · cases h⟩
theorem okS_forr {tg : List Nat} {one : Bool} {it : E} {b : List S} (hb : ∀ s ∈ b, OkS n cls N s) : OkS n cls N (.forr tg one it b) := ⟨fun {T X W} G st h => by
  unfold chkS at h
  have hh := (hot_and h).1
  replace h := (hot_and h).2
  split at h
  · next t x p q =>
    simp only [Bool.and_eq_true] at h
    have hN : X.N.Nodup := by rw [G.good.nm]; exact G.good.nd
    obtain ⟨p1, p2⟩ := (okAll it).pI (tg := t) G.good G.tk (chkTg_tup h.1.2) x h.1.1
    exact PS.imp (ps_for G.own (G.good.calm hh) p1 (pg_D (G.good.calm hh) hN G.good.nm (fun x _ => G.fn x) h.1.2) (okSs hb G p h.2) (fold_plain2 p2)) fun D σ H q => tS_for (unf (fun ρ st => by unfold ex; rfl) q)
  · cases h⟩
theorem okS_whl {c : E} {b : List S} (hb : ∀ s ∈ b, OkS n cls N s) : OkS n cls N (.whl c b) := ⟨fun {T X W} G st h => by
  unfold chkS at h
  split at h
  · next x p q =>
    simp only [Bool.and_eq_true] at h
    exact PS.imp (ps_while G.own ((okAll c).pT G.good G.tk x h.1) (okSs hb G p h.2)) fun D σ H q => tS_while (unf (fun ρ st => by unfold ex; rfl) q)
  · cases h⟩
theorem okS_cont : OkS n cls N .cont := ⟨fun {T X W} G st h => by
  unfold chkS at h
  split at h
  · exact PS.imp ps_continue fun D σ H q => tS_cont (unf (fun ρ st => by unfold ex; rfl) q)
  · cases h⟩
theorem okS_pass : OkS n cls N .pass := ⟨fun {T X W} G st h => by
  unfold chkS at h
  split at h
  · exact PS.imp ps_pass fun D σ H q => tS_next (unf (fun ρ st => by unfold ex; rfl) q)
  · exact PS.imp ps_doc fun D σ H q => tS_next (unf (fun ρ st => by unfold ex; rfl) q)
  · cases h⟩
theorem okS_rais {c : Nat} {e : E} : OkS n cls N (.rais c e) := ⟨fun {T X W} G st h => by
  unfold chkS at h
  have hh := (hot_and h).1
  replace h := (hot_and h).2
  split at h
  · next x p m j p2 p3 p4 =>
    simp only [clsIs, Bool.and_eq_true, beq_iff_eq, Bool.or_eq_true, List.contains_iff_mem, bne_iff_ne] at h
    obtain ⟨⟨h1, h9⟩, ⟨rfl, hg⟩, hc⟩ := h
    obtain ⟨g1, g2, g3⟩ := gloB_glo hg
    have hc : c ∈ T.xs := hc.elim (fun z => absurd z h9) id
    obtain ⟨k, hm⟩ := G.good.xf c hc
    rw [clsV_ref k.le] at hm
    obtain ⟨x1, x2, x3, x4⟩ := He.exc_ok k.exc
    refine PS.imp (ps_raise (G.good.calm hh) G.tk (pmk_own PySem.F.excBase_ValueError x1 hm x2 (raises_own x3 x4) g1 g2)) fun D σ H q => ?_
    obtain ⟨m1, ρ, st1, hE, hS, hP⟩ := q
    cases e with
    | cst d =>
      cases d with
      | str z =>
        simp only [ex, ev, R.toF_ok] at hP
        have := hP m1 σ H Ext.refl hS hE
        rw [G.good.cl, clsV_ref k.le] at this
        exact this
      | _ => cases h1
    | _ => cases h1
  · cases h⟩
theorem good_hot {T : Tab} {X : Cx} {W : WX} (G : GoodS T n cls N X W) (a : Addr) (pn : List (Addr × Obj)) : GoodS { T with hot := true } n cls N (X.suite a pn) (fun _ _ _ _ => False) :=
  ⟨⟨fun z => (by cases z), G.good.nm, G.good.nd, fun z => (by cases z), G.good.units, G.good.free, fun z => (by cases z), G.good.gls, G.good.gd, G.good.xf, G.good.cl⟩, tk_never rfl, PassesOwn.never, G.fn, G.stk, G.fr⟩
theorem good_tr {T : Tab} {X : Cx} {W W' : WX} (G : GoodS T n cls N X W) {pn : List (Addr × Obj)} {xe : Value → Shared → Prop} (tk : Takes (X.tr pn xe) W') (own : PassesOwn (model X.prog X.w) X.A X.env xe) : GoodS T n cls N (X.tr pn xe) W' :=
  ⟨⟨G.good.calm, G.good.nm, G.good.nd, G.good.room, G.good.units, G.good.free, G.good.fns, G.good.gls, G.good.gd, G.good.xf, G.good.cl⟩, tk, own, G.fn, G.stk, G.fr⟩
theorem nmB_ok {X : Cx} {on : Option Str} {nm : List Nat} (hN : X.N = N) (h : nmB N X.env.scope on nm = true) : NmOk X on nm := by
  unfold nmB at h
  split at h
  · rfl
  · next n i =>
    simp only [Bool.and_eq_true, isName, decide_eq_true_eq] at h
    exact ⟨i, rfl, by rw [hN]; exact h.1, locB_loc h.2⟩
  · cases h
theorem tS_tri {K : PySem.W.Frag} {W : WX} {D : Ends} {σ : L2.St} {H : Hp} {fb fh : Env → Store → F} {xs : List Nat} {cs : Nat} {nm : List Nat} (hcl : ∀ c, cls c = clsV K c) (hx : ∀ c ∈ xs, ClsOk K c) (hcs : ClsOk K cs) (hn : nm = [] ∨ ∃ i, nm = [i])
    (q : tSt K cls W (fun ρ st => caught (fb ρ st) xs cs nm fh) D σ H) : tSt K cls (wK K (clsV K cs) nm (fun _ => tSt K cls (fun _ _ _ _ => False) fh) D) fb D σ H := by
  obtain ⟨m, ρ, st, hE, hS, hP⟩ := q
  refine ⟨m, ρ, st, hE, hS, ?_⟩
  dsimp only at hP
  cases er : fb ρ st with
  | nx ρ1 s => rw [er] at hP; exact hP
  | ct ρ1 s => rw [er] at hP; exact hP
  | rt d s => rw [er] at hP; exact hP
  | fault => rw [er] at hP; exact hP
  | exc c ρ1 s1 =>
    rw [er] at hP
    simp only [caught] at hP
    split at hP
    · next hc =>
      rw [Bool.and_eq_true, List.contains_iff_mem] at hc
      have k := hx c hc.1
      intro m' σ' H' x hS' hE'
      refine ⟨rfl, ?_, fun a na => ?_⟩
      · rw [hcl, (k.two cs hcs.le hcs.glo).1, hc.2]
      · have x2 : Ext H' (upd H' a (.ext (ExO (cls c) a))) m' m' := Ext.laid hS' na
        have hS2 : SimS K (upd H' a (.ext (ExO (cls c) a))) m' s1 := hS'.laid na
        have r : RD K (upd H' a (.ext (ExO (cls c) a))) m' (.exc c) (.ref a) := .exc k (by rw [upd_same, hcl]; rfl)
        have hE2 := hE'.mono hS'.cells x2
        have fin : ∀ {ρ2 : Env} {σ2 : L2.St}, SimE K (upd H' a (.ext (ExO (cls c) a))) m' ρ2 σ2 → PostF K cls W m H D ((fh ρ2 s1).clear nm) →
            tSt K cls (fun _ _ _ _ => False) fh { nx := fun σ' H' => D.nx (L2.wipe σ' nm) H', rt := D.rt, bk := fun σ' H' => D.bk (L2.wipe σ' nm) H', ct := fun σ' H' => D.ct (L2.wipe σ' nm) H' } σ2 (upd H' a (.ext (ExO (cls c) a))) := fun {ρ2 σ2} hE3 hP3 => by
          refine ⟨m', ρ2, s1, hE3, hS2, ?_⟩
          cases e3 : fh ρ2 s1 with
          | nx ρ4 s4 =>
            rw [e3] at hP3
            exact fun m4 σ4 H4 y hS4 hE4 => hP3 m4 _ H4 (x.trans (x2.trans y)) hS4 (hE4.wipe nm)
          | ct ρ4 s4 =>
            rw [e3] at hP3
            exact fun m4 σ4 H4 y hS4 hE4 => hP3 m4 _ H4 (x.trans (x2.trans y)) hS4 (hE4.wipe nm)
          | rt d s4 =>
            rw [e3] at hP3
            exact fun m4 v H4 y hS4 rd => hP3 m4 v H4 (x.trans (x2.trans y)) hS4 rd
          | exc c' ρ4 s4 => rw [e3] at hP3; exact False.elim hP3
          | fault => rw [e3] at hP3; exact False.elim hP3
        rcases hn with rfl | ⟨i, rfl⟩
        · exact fin hE2 hP
        · refine fin (hE2.put (tg := [i]) (ds := [.exc c]) (vs := [.ref a]) (.cons r .nil) rfl) ?_
          exact hP
    · exact False.elim hP
theorem okS_tri {b h : List S} {xs : List Nat} {cs : Nat} {nm : List Nat} (Ib : ∀ s ∈ b, OkS n cls N s) (Ih : ∀ s ∈ h, OkS n cls N s) : OkS n cls N (.tri b xs cs nm h) := ⟨fun {T X W} G st q => by
  unfold chkS at q
  have hh := (hot_and q).1
  replace q := (hot_and q).2
  split at q
  · next p x np on q0 qs p2 more p3 =>
    simp only [clsIs, xsIs, Bool.and_eq_true, beq_iff_eq, Bool.or_eq_true, List.contains_iff_mem, bne_iff_ne, decide_eq_true_eq] at q
    obtain ⟨⟨⟨⟨⟨rfl, h9⟩, ⟨rfl, hg⟩, hc⟩, hnm⟩, hb⟩, hs⟩ := q
    obtain ⟨g1, g2, g3⟩ := gloB_glo hg
    have hc : cs ∈ T.xs := hc.elim (fun z => absurd z h9) id
    obtain ⟨k, hm⟩ := G.good.xf cs hc
    have nd : X.N.Nodup := by rw [G.good.nm]; exact G.good.nd
    have hn1 : nm = [] ∨ ∃ i, nm = [i] := by
      unfold nmB at hnm
      split at hnm
      · exact .inl rfl
      · exact .inr ⟨_, rfl⟩
      · cases hnm
    refine PS.imp (ps_tryK (tb := fun W' => tSt X.K cls W' (exs (callN T.T n) b)) (ts := fun _ => tSt X.K cls (fun _ _ _ _ => False) (exs (callN T.T n) h)) G.stk G.fr nd (nmB_ok G.good.nm hnm) ⟨g1, g2, .inl hm⟩ (fun W' pn xe tk own => okSs Ib (good_tr G tk own) p hb) fun a pn => okSs Ih (good_hot G a pn) (q0 :: qs) hs) fun D σ H q => ?_
    exact tS_tri G.good.cl (fun c hc => (G.good.xf c hc).1) k hn1 (unf (fun ρ st => by unfold ex; rfl) q)
  · cases q⟩
mutual
theorem okSAll : ∀ s : S, OkS n cls N s
  | .asg i e => okS_asg
  | .unp is e => okS_unp
  | .par is es => okS_par
  | .seti o i v => okS_seti
  | .exp e => okS_exp
  | .ret e => okS_ret
  | .ret0 => okS_ret0
  | .iff c a b => okS_iff (okSsAll a) (okSsAll b)
  | .forr tg one it b => okS_forr (okSsAll b)
  | .whl c b => okS_whl (okSsAll b)
  | .rais c e => okS_rais
  | .tri b xs cs nm hd => okS_tri (okSsAll b) (okSsAll hd)
  | .cont => okS_cont
  | .pass => okS_pass
  | .dead => ⟨fun G st h => ⟨fun pins s σ H D I q => by
      obtain ⟨m, ρ, st1, hE, hS, hP⟩ := q
      unfold ex at hP
      exact False.elim hP⟩⟩
theorem okSsAll : ∀ ss : List S, ∀ s ∈ ss, OkS n cls N s
  | [], s, h => by cases h
  | a :: as, s, h => by
    have ha := okSAll a
    have hs := okSsAll as
    cases h with
    | head => exact ha
    | tail _ h => exact hs s h
end
end
end Mi
/-! MiM: a def's run is its body's meaning; a table of defs. -/
namespace Mi
open PySem PySem.Spec L2
section
variable {K : PySem.W.Frag} {H : Hp} {m m' : Pl} {st st' : Store}
/-- a tracked list seen as one that stays -/
theorem RD.freeze (hS : SimS K H m st) {n : Nat} {l : Nat} {a : Addr} {xs : List D} (hn : n ≤ l) (ha : m.t[l]? = some a) (hc : st[l]? = some (.lst xs)) (hb : belows n xs = true) : RD K H (m.cut n) (.lst xs) (.ref a) := by
  obtain ⟨us, h1, h2⟩ := hS.cell l a _ ha hc
  refine .lst ⟨⟨fun z => ?_, fun z => (hS.pv a z).1 (List.mem_of_getElem? ha)⟩, .inl h1⟩ (h2.ct (cut_take _) hb)
  obtain ⟨j, hj⟩ := List.getElem?_of_mem z
  have hj : (m.t.take n)[j]? = some a := hj
  have hjl : j < n := by
    have := (List.getElem?_eq_some_iff.mp hj).1
    rw [List.length_take] at this; omega
  rw [List.getElem?_take_of_lt hjl] at hj
  have h3 := List.getElem?_eq_some_iff.mp hj
  have h4 := List.getElem?_eq_some_iff.mp ha
  have := (List.getElem_inj (h₀ := h3.1) (h₁ := h4.1) hS.nd).mp (h3.2.trans h4.2.symm)
  omega
theorem frz_int {st : Store} {n : Nat} {d : D} {i : Int} (h : Mi.frz st n d = some (.int i)) : d = .int i := by
  cases d with
  | int j => simp only [Mi.frz] at h; cases h; rfl
  | loc l =>
    simp only [Mi.frz] at h
    split at h
    · cases h
    · split at h
      · split at h <;> cases h
      · cases h
  | tup xs =>
    simp only [Mi.frz, Option.map_eq_some_iff] at h
    obtain ⟨_, _, e⟩ := h
    cases e
  | lst xs =>
    simp only [Mi.frz] at h
    split at h <;> cases h
  | _ => simp only [Mi.frz] at h; cases h
theorem frzs_pair {st : Store} {n : Nat} : ∀ {ds es : List D}, Mi.frzs st n ds = some es → intPair es = true → intPair ds = true
  | [], es, h, k => by simp only [Mi.frzs] at h; cases h; cases k
  | d :: ds, es, h, k => by
    simp only [Mi.frzs] at h
    split at h
    · next y ys e1 e2 =>
      cases h
      cases y with
      | int i =>
        obtain rfl := frz_int e1
        cases ys with
        | nil => cases k
        | cons z zs =>
          cases z with
          | int i2 =>
            cases zs with
            | cons _ _ => cases k
            | nil =>
              cases ds with
              | nil => simp only [Mi.frzs] at e2; cases e2
              | cons d2 ds2 =>
                simp only [Mi.frzs] at e2
                split at e2
                · next y2 ys2 e3 e4 =>
                  cases e2
                  obtain rfl := frz_int e3
                  cases ds2 with
                  | nil => exact k
                  | cons d3 ds3 =>
                    simp only [Mi.frzs] at e4
                    split at e4 <;> cases e4
                · cases e2
          | _ => cases k
      | _ => cases k
    · cases h
theorem frz_keyHd {st : Store} {n : Nat} {d e : D} (h : Mi.frz st n d = some e) (k : keyHd e = true) : keyHd d = true := by
  cases d with
  | tup xs =>
    simp only [Mi.frz, Option.map_eq_some_iff] at h
    obtain ⟨es, h, rfl⟩ := h
    have : intPair es = true := by
      unfold keyHd at k
      split at k
      · next e => cases e
      · next e => cases e
      · next i j e => cases e; rfl
      · cases k
    have := frzs_pair h this
    unfold intPair at this
    split at this
    · rfl
    · cases this
  | loc l =>
    simp only [Mi.frz] at h
    split at h
    · cases h; cases k
    · split at h
      · split at h
        · cases h; cases k
        · cases h
      · cases h
  | lst xs =>
    simp only [Mi.frz] at h
    split at h
    · cases h; cases k
    · cases h
  | _ => simp only [Mi.frz] at h; cases h; exact k
theorem frz_pairHd {st : Store} {n : Nat} {d e : D} (h : Mi.frz st n d = some e) (k : pairHd e = true) : pairHd d = true := by
  cases d with
  | tup xs =>
    simp only [Mi.frz, Option.map_eq_some_iff] at h
    obtain ⟨es, h, rfl⟩ := h
    unfold pairHd at k
    split at k
    · next a b e =>
      cases e
      match xs, h with
      | [], h => simp only [Mi.frzs] at h; cases h
      | [x], h =>
        simp only [Mi.frzs] at h
        split at h
        · next e1 e2 => cases e2; cases h
        · cases h
      | [x, y], h =>
        simp only [Mi.frzs] at h
        split at h
        · next e1 e2 => cases h; exact frz_keyHd e1 k
        · cases h
      | x :: y :: z :: r, h =>
        exfalso
        simp only [Mi.frzs] at h
        split at h
        · next e1 e2 =>
          split at e2
          · next e3 e4 =>
            split at e4
            · cases e4; cases e2; cases h
            · cases e4
          · cases e2
        · cases h
    · cases k
  | loc l =>
    simp only [Mi.frz] at h
    split at h
    · cases h; cases k
    · split at h
      · split at h
        · cases h; cases k
        · cases h
      · cases h
  | lst xs =>
    simp only [Mi.frz] at h
    split at h
    · cases h; cases k
    · cases h
  | _ => simp only [Mi.frz] at h; cases h; cases k
theorem frzs_pairy {st : Store} {n : Nat} : ∀ {ds es : List D}, Mi.frzs st n ds = some es → pairy es = true → pairy ds = true
  | [], es, h, k => rfl
  | d :: ds, es, h, k => by
    simp only [Mi.frzs] at h
    split at h
    · next y ys e1 e2 =>
      cases h
      simp only [pairy, List.all_cons, Bool.and_eq_true] at k ⊢
      exact ⟨frz_pairHd e1 k.1, frzs_pairy e2 k.2⟩
    · cases h
mutual
theorem RD.frz (hS : SimS K H m st) {n : Nat} : ∀ {d : D} {v : V} {e : D}, RD K H m d v → Mi.frz st n d = some e → RD K H (m.cut n) e v
  | _, _, _, .non, h => by simp only [Mi.frz] at h; cases h; exact .non
  | _, _, _, .bl b, h => by simp only [Mi.frz] at h; cases h; exact .bl b
  | _, _, _, .int i, h => by simp only [Mi.frz] at h; cases h; exact .int i
  | _, _, _, .str s, h => by simp only [Mi.frz] at h; cases h; exact .str s
  | .tup ds, _, e, .tup h ex ex3 r, q => by
    simp only [Mi.frz, Option.map_eq_some_iff] at q
    obtain ⟨es, q, rfl⟩ := q
    exact .tup h (fun k => ex (frzs_pair q k)) (fun k => ex3 (frzs_pairy q k)) (RDs.frz hS r q)
  | .lst ds, _, e, .lst h r, q => by
    simp only [Mi.frz] at q
    split at q
    · next hb =>
      cases q
      exact RD.ct (cut_take n) (by unfold Mi.below; exact hb) (.lst h r)
    · cases q
  | _, _, _, .odd a, h => by simp only [Mi.frz] at h; cases h; exact .odd a
  | _, _, _, .zr, h => by simp only [Mi.frz] at h; cases h; exact .zr
  | _, _, _, .exc k a, h => by simp only [Mi.frz] at h; cases h; exact .exc k a
  | .loc l, _, e, .loc h, q => by
    simp only [Mi.frz] at q
    split at q
    · next hl =>
      cases q
      exact RD.ct (cut_take n) (by unfold Mi.below; exact decide_eq_true hl) (.loc h)
    · next hl =>
      split at q
      · next xs hc =>
        split at q
        · next hb =>
          cases q
          exact RD.freeze hS (Nat.le_of_not_lt hl) h hc hb
        · cases q
      · cases q
theorem RDs.frz (hS : SimS K H m st) {n : Nat} : ∀ {ds : List D} {vs : List V} {es : List D}, RDs K H m ds vs → frzs st n ds = some es → RDs K H (m.cut n) es vs
  | _, _, _, .nil, h => by simp only [frzs] at h; cases h; exact .nil
  | d :: ds, _, es, .cons r1 r2, h => by
    simp only [frzs] at h
    split at h
    · next y ys e1 e2 => cases h; exact .cons (RD.frz hS r1 e1) (RDs.frz hS r2 e2)
    · cases h
end
/-- one tracked list behind the cut is kept -/
theorem SimS.cutOne (hS : SimS K H m st) {n l : Nat} (hn : n ≤ st.length) (hb : ∀ l c, l < n → st[l]? = some c → cbelow n c = true) {a : Addr} {c : Cell} (hl : n ≤ l) (ha : m.t[l]? = some a) (hc : st[l]? = some c) (hcb : cbelow n c = true) :
    SimS K H ((m.cut n).push a) (st.take n ++ [c]) := by
  have s1 := hS.cut hn hb
  have htl : (m.cut n).t.length = n := by show (m.t.take n).length = n; rw [List.length_take, hS.len]; omega
  have na : a ∉ (m.cut n).t := fun z => by
    obtain ⟨j, hj⟩ := List.getElem?_of_mem z
    have hj : (m.t.take n)[j]? = some a := hj
    have hjl : j < n := by
      have := (List.getElem?_eq_some_iff.mp hj).1
      rw [List.length_take] at this; omega
    rw [List.getElem?_take_of_lt hjl] at hj
    have h3 := List.getElem?_eq_some_iff.mp hj
    have h4 := List.getElem?_eq_some_iff.mp ha
    have := (List.getElem_inj (h₀ := h3.1) (h₁ := h4.1) hS.nd).mp (h3.2.trans h4.2.symm)
    omega
  have hx : a ∉ m.x := fun z => (hS.pv a z).1 (List.mem_of_getElem? ha)
  have ht : Cut n m ((m.cut n).push a) := ⟨fun k b hk e => by
    show (m.t.take n ++ [a])[k]? = some b
    rw [List.getElem?_append_left (by rw [List.length_take, hS.len]; omega), List.getElem?_take_of_lt hk]; exact e, fun b hb => by
    rcases List.mem_append.mp (show b ∈ m.t.take n ++ [a] from hb) with z | z
    · exact List.mem_of_mem_take z
    · simp at z; subst z; exact List.mem_of_getElem? ha, rfl⟩
  refine ⟨nodup_snoc s1.nd na, ?_, fun k b c' h1 h2 => ?_, fun b hb' => ?_⟩
  · show (m.t.take n ++ [a]).length = _
    rw [List.length_append, List.length_append, List.length_take, List.length_take, hS.len]; rfl
  · have h1 : (m.t.take n ++ [a])[k]? = some b := h1
    by_cases hk : k < n
    · rw [List.getElem?_append_left (by rw [List.length_take, hS.len]; omega), List.getElem?_take_of_lt hk] at h1
      rw [List.getElem?_append_left (by rw [List.length_take]; omega), List.getElem?_take_of_lt hk] at h2
      exact (hS.cell k b c' h1 h2).ct ht (hb k c' hk h2)
    · have e1 : k = n := by
        have := (List.getElem?_eq_some_iff.mp h1).1
        rw [List.length_append, List.length_take, hS.len] at this
        simp at this; omega
      subst e1
      rw [List.getElem?_append_right (by rw [List.length_take, hS.len]; omega), List.length_take, hS.len, Nat.min_eq_left hn, Nat.sub_self] at h1
      rw [List.getElem?_append_right (by rw [List.length_take]; omega), List.length_take, Nat.min_eq_left hn, Nat.sub_self] at h2
      cases h1; cases h2
      exact (hS.cell l a c ha hc).ct ht hcb
  · obtain ⟨h1, h2⟩ := hS.pv b hb'
    refine ⟨fun z => ?_, h2⟩
    rcases List.mem_append.mp (show b ∈ m.t.take n ++ [a] from z) with z | z
    · exact h1 (List.mem_of_mem_take z)
    · simp at z; subst z; exact h1 (List.mem_of_getElem? ha)
theorem Ext.cutOne {H0 : Hp} {m0 : Pl} (x : Ext H0 H m0 m) {n l : Nat} {a : Addr} (hn : m0.t.length = n) (ha : m.t[l]? = some a) : Ext H0 H m0 ((m.cut n).push a) := by
  have y := x.cutE hn
  refine ⟨fun k b h => ?_, fun b h h' => ?_, x.keep, x.pv⟩
  · have q : (m.t.take n)[k]? = some b := y.pre k b h
    show (m.t.take n ++ [a])[k]? = some b
    rw [List.getElem?_append_left (List.getElem?_eq_some_iff.mp q).1]; exact q
  · rcases List.mem_append.mp (show b ∈ m.t.take n ++ [a] from h) with z | z
    · exact y.new b z h'
    · simp at z; subst z; exact x.new _ (List.mem_of_getElem? ha) h'
theorem PostX.canon {cls : Nat → Value} {Q : VK} {E : XK} {m0 : Pl} {H0 : Hp} {st0 st' : Store} {d : D} {v : V} (hS0 : SimS K H0 m0 st0) (p : PostX K cls m0 H0 Q E (Mi.canon st0 d st')) (x : Ext H0 H m0 m) (hS : SimS K H m st') (r : RD K H m d v) : Q v H := by
  unfold Mi.canon at p
  split at p
  · next hk =>
    have hb := hk.below hS0
    have hl0 := hk.1
    split at p
    · next l =>
      obtain ⟨a, rfl, ha⟩ := rd_loc r
      split at p
      · next hl =>
        exact p _ _ _ (x.cutE hS0.len) (hS.cut hl0 hb) (RD.ct (cut_take _) (by unfold Mi.below; exact decide_eq_true hl) r)
      · next hl =>
        split at p
        · next c hc =>
          split at p
          · next hcb =>
            refine p _ _ _ (x.cutOne hS0.len ha) (hS.cutOne hl0 hb (Nat.le_of_not_lt hl) ha hc hcb) (.loc ?_)
            show (m.t.take st0.length ++ [a])[st0.length]? = some a
            rw [List.getElem?_append_right (by rw [List.length_take]; exact Nat.min_le_left _ _), List.length_take, hS.len, Nat.min_eq_left hl0, Nat.sub_self]; rfl
          · exact p _ _ _ x hS r
        · exact False.elim p
    · next hd =>
      split at p
      · next e he => exact p _ _ _ (x.cutE hS0.len) (hS.cut hl0 hb) (r.frz hS he)
      · exact False.elim p
  · exact False.elim p
theorem PostX.leave {cls : Nat → Value} {Q : VK} {E : XK} {m0 : Pl} {H0 : Hp} {st0 : Store} {r : F} (hS0 : SimS K H0 m0 st0) (p : PostX K cls m0 H0 Q E (Mi.leave st0 r)) : PostF K cls (fun c d _ H => E c d H) m0 H0 { nx := fun _ H' => Q .non H', rt := Q } r := by
  cases r with
  | nx ρ s => exact fun m' σ' H' x hS hE => PostX.canon hS0 (d := .non) p x hS .non
  | rt d s => exact fun m' v H' x hS rd => PostX.canon hS0 p x hS rd
  | ct ρ s => exact False.elim p
  | fault => exact False.elim p
  | exc c ρ s =>
    intro m' σ' H' x hS hE
    unfold Mi.leave at p
    simp only at p
    by_cases hk : Keeps st0 s
    · rw [if_pos hk] at p
      exact p _ _ (x.cutE hS0.len) (hS.cut hk.1 (hk.below hS0))
    · rw [if_neg hk] at p
      exact False.elim p
end

/-! ### a table of defs -/
theorem startE_sim {K : PySem.W.Frag} {H : Hp} {m : Pl} {ds : List D} {vs : List V} {N : List Str} {fn : Fn} (r : RDs K H m ds vs) (hN : fn.nv = N.length) : SimE K H m (startE fn ds) (L2.start N vs) := by
  refine ⟨?_, fun i d h => ?_⟩
  · unfold startE L2.start
    simp [r.length, hN]
  · unfold startE at h
    unfold L2.start
    by_cases hi : i < ds.length
    · rw [List.getElem?_append_left (by simpa using hi), List.getElem?_map] at h
      simp only [Option.map_eq_some_iff] at h
      obtain ⟨d', h, e⟩ := h
      cases e
      obtain ⟨v, hv, rv⟩ := r.get h
      refine ⟨v, ?_, rv⟩
      rw [List.getElem?_append_left (by simp [← r.length]; exact hi), List.getElem?_map, hv]; rfl
    · rw [List.getElem?_append_right (by simp; omega)] at h
      have := List.getElem?_eq_some_iff.mp h
      obtain ⟨_, h⟩ := this
      rw [List.getElem_replicate] at h
      cases h
/-- what is known of a def of the text: its place, its function, its names -/
structure Def (K : PySem.W.Frag) (mg : Str → Option Value) (fn : Fn) (N ps : List Str) (body : List Stmt) (scope : Scope) (a : Addr) (fd : FuncData) : Prop where
  fun_ : ∃ (x qual : Str) (params : Arguments) (dvs : List V) (kws : List (Str × V)), FunD K x qual params body scope dvs kws a fd
  mg_ : mg fn.name = some (.ref a)
  keep : PySem.W.keepIn K (.ref a) = true
  binds : ∀ k, k ≤ fn.dfl.length → ∃ ds, Vals ((fn.dfl.drop (fn.dfl.length - k)).map atomV) ds ∧ Binds K fd ps ds
  sc : FnScope N ps scope
  np : ps.length = fn.np
  nv : fn.nv = N.length
section
variable {P : Program} {w : World} {K : PySem.W.Frag} {mg : Str → Option Value} {base : Heap} {T : Tab} {cls : Nat → Value} {n i : Nat} {fn : Fn} {N ps : List Str} {body : List Stmt} {scope : Scope} {a : Addr} {fd : FuncData}
theorem Def.ok0 (D0 : Def K mg fn N ps body scope a fd) : GFn P w K mg base (L2.CX P w) 0 a fd ps (spD K cls (callN T.T 0 i)) := by
  refine ⟨fun vs H Q E q => ?_, fun A outer s H args us vs Q E _ _ _ _ _ q => ?_⟩
  · obtain ⟨m, st, ds, _, _, q⟩ := q
    exact False.elim q
  · obtain ⟨m, st, ds, _, _, q⟩ := q
    exact False.elim q
theorem Def.okS (D0 : Def K mg fn N ps body scope a fd) (h : T.T[i]? = some fn) (hc : chkSs T N scope fn.body body = true) (hfree : ∀ x : String, x ∈ bnames → mg (x : Str) = none) (hgl : GlFact K mg T.gs) (hx : XFact K mg T.xs) (hcl : ∀ c, cls c = clsV K c) (hhot : T.hot = false)
    (IH : ∀ (X : Cx), X.prog = P → X.w = w → X.K = K → X.mg = mg → X.base = base → ∀ (j : Nat) (g : Fn), T.T[j]? = some g → FnFact X cls n (callN T.T n j) g) :
    GFn P w K mg base (L2.CX P w) (n + 1) a fd ps (spD K cls (callN T.T (n + 1) i)) := by
  obtain ⟨x, qual, params, dvs, kws, F⟩ := D0.fun_
  refine GFn.of F D0.sc (fun vs H Q E q => ?_) (fun cdv A outer s H vs Q E hgd hr q => ?_)
  · obtain ⟨m, st0, ds, _, r, q⟩ := q
    unfold callN at q
    rw [h] at q
    simp only at q
    split at q
    · next hl => rw [← r.length, hl, D0.np]
    · exact False.elim q
  · obtain ⟨m, st0, ds, hS, r, q⟩ := q
    unfold callN at q
    rw [h] at q
    simp only at q
    split at q
    · next hl =>
      refine ⟨_, okSs (T := T) (n := n) (cls := cls) (N := N) (X := cxOf (L2.CX P w) P w K mg base N qual scope a cdv A outer s H E) (W := fun c d _ H => E c d H) (okSsAll fn.body) ⟨⟨fun _ => rfl, rfl, D0.sc.nd, fun _ => hr, hr.units, hfree, fun _ => IH _ rfl rfl rfl rfl rfl, hgl, hgd, hx, hcl⟩, takes_of rfl rfl rfl rfl, passes_of rfl, fun _ => rfl, rfl, rfl⟩ body hc, ?_⟩
      exact ⟨m, _, st0, startE_sim r D0.nv, hS, PostX.leave hS q⟩
    · exact False.elim q
end
theorem fn_facts {P : Program} {w : World} {K : PySem.W.Frag} {mg : Str → Option Value} {base : Heap} {T : Tab} {cls : Nat → Value} (hfree : ∀ x : String, x ∈ bnames → mg (x : Str) = none) (hgl : GlFact K mg T.gs) (hx : XFact K mg T.xs) (hcl : ∀ c, cls c = clsV K c) (hhot : T.hot = false)
    (hT : ∀ (i : Nat) (fn : Fn), T.T[i]? = some fn → ∃ N ps body scope a fd, Def K mg fn N ps body scope a fd ∧ chkSs T N scope fn.body body = true) :
    ∀ (n : Nat) (X : Cx) (_ : X.prog = P) (_ : X.w = w) (_ : X.K = K) (_ : X.mg = mg) (_ : X.base = base) (i : Nat) (fn : Fn), T.T[i]? = some fn → FnFact X cls n (callN T.T n i) fn
  | 0, X, e1, e2, e3, e4, e5, i, fn, h => by
    subst e1 e2 e3 e4 e5
    obtain ⟨N, ps, body, scope, a, fd, D0, hc⟩ := hT i fn h
    exact ⟨a, fd, ps, D0.ok0, D0.mg_, D0.keep, D0.binds⟩
  | n + 1, X, e1, e2, e3, e4, e5, i, fn, h => by
    subst e1 e2 e3 e4 e5
    obtain ⟨N, ps, body, scope, a, fd, D0, hc⟩ := hT i fn h
    exact ⟨a, fd, ps, D0.okS h hc hfree hgl hx hcl hhot (fun Y f1 f2 f3 f4 f5 j g hj => fn_facts hfree hgl hx hcl hhot hT n Y f1 f2 f3 f4 f5 j g hj), D0.mg_, D0.keep, D0.binds⟩
end Mi
/-! MiN: from the head's facts to a law's answer. -/
namespace Mi
open PySem PySem.Spec L2

/-! ### the hook: as the layer's, lists left out -/
def notL (g : Addr → Option Obj) (a : Addr) : Option Obj := match g a with
  | some o => if o.cls = .type "list" then none else some o
  | none => none
def NoL (K : PySem.W.Frag) : Prop := ∀ b o, K.lookup b = some o → o.cls ≠ .type "list"
def obsM (n : Nat) (fa : List He.Fa) (fn : List He.DefD) (g : Addr → Option Obj) : He.AlD := He.obsD fa fn (He.frG (notL g) (He.asD g n))
theorem frM_nol {g : Addr → Option Obj} {as : List Addr} : NoL (He.frG (notL g) as) := fun b o e z => by
  have q := He.frG_at as e
  unfold notL at q
  split at q
  · split at q
    · cases q
    · next h => cases q; exact h z
  · cases q
theorem frM_in {h : Heap} {as : List Addr} : (He.frG (notL h.get?) as).In h := fun b o e => by
  have q := He.frG_at as e
  unfold notL at q
  split at q
  · next o' e' =>
    split at q
    · cases q
    · cases q; exact e'
  · cases q
/-! ### the module's constants -/
def dv : D → He.Dv
  | .bl b => .bl b
  | .int i => .int i
  | .zr => .int 0
  | .str s => .str s
  | _ => .non
def atomD : D → Bool
  | .non => true | .bl _ => true | .int _ => true | .zr => true | .str _ => true | _ => false
def gOk (K : PySem.W.Frag) (p : Str × D) : Bool := match p.2 with
  | .int i => (He.Fa.int p.1 i).ok K
  | .str z => (He.Fa.str p.1 z).ok K
  | .tup ds => (He.Fa.glo p.1).ok K && ds.all atomD && He.tupB K p.1 (ds.map dv) && !intPair ds && !pairy ds
  | _ => false
theorem atoms_rd {K : PySem.W.Frag} {H : Hp} {m : Pl} : ∀ {ds : List D}, ds.all atomD = true → RDs K H m ds ((ds.map dv).map (He.Dv.v K))
  | [], _ => .nil
  | d :: ds, h => by
    simp only [List.all_cons, Bool.and_eq_true] at h
    refine .cons ?_ (atoms_rd h.2)
    have h1 := h.1
    cases d with
    | non => exact .non
    | bl b => exact .bl b
    | int i => exact .int i
    | zr => exact .zr
    | str s => exact .str s
    | _ => cases h1
theorem gOk_fact {K : PySem.W.Frag} {h : Heap} {mg : Str → Option Value} {gs : List (Str × D)} (X : K.In h) (G : h.Ns mainGlobals mg) (c : gs.all (gOk K) = true) : GlFact K mg gs := fun p hp => by
  have q := List.all_eq_true.mp c p hp
  obtain ⟨x, d⟩ := p
  unfold gOk at q
  simp only at q
  split at q
  · obtain ⟨t, e⟩ := He.int_ok X G q
    exact ⟨.int _, _, e, ⟨t, rfl⟩, fun _ _ _ _ => .int _⟩
  · obtain ⟨t, e⟩ := He.str_ok X G q
    exact ⟨.str _, _, e, ⟨t, rfl⟩, fun _ _ _ _ => .str _⟩
  · simp only [Bool.and_eq_true, Bool.not_eq_true'] at q
    exact ⟨.ref (He.ga K x), _, He.glo_ok X G q.1.1.1.1, rfl, fun H m _ _ => .tup (He.tupB_ok q.1.1.2 H) (fun k => by rw [q.1.2] at k; cases k) (fun k => by rw [q.2] at k; cases k) (atoms_rd q.1.1.1.2)⟩
  · cases q

def obsG (n : Nat) (fa : List He.Fa) (fn : List He.DefD) (gs : List (Str × D)) (xs : List Nat) (g : Addr → Option Obj) : He.AlD × Bool × Bool := (obsM n fa fn g, gs.all (gOk (He.frG (notL g) (He.asD g n))), xs.all (clsB (He.frG (notL g) (He.asD g n))))
def hookM (n : Nat) (fa : List He.Fa) (fn : List He.DefD) (gs : List (Str × D)) (xs : List Nat) : PySem.W.Hook where
  α := He.AlD × Bool × Bool
  obs := fun s => obsG n fa fn gs xs s.heap.get?
  val := fun _ => (He.valD fn, true, true)
  says := fun _ h => ∃ K : PySem.W.Frag, K.In h ∧ NoL K ∧ He.SaysD fa fn K ∧ gs.all (gOk K) = true ∧ xs.all (clsB K) = true
  of := fun _ _ e => ⟨_, frM_in, frM_nol, congrArg Prod.fst e, congrArg (fun z => z.2.1) e, congrArg (fun z => z.2.2) e⟩
  keeps := fun _ _ _ ⟨K, hK, k, c, d⟩ x => ⟨K, PySem.W.Frag.In.keeps hK x, k, c, d⟩
theorem obsG_eq {n : Nat} {fa : List He.Fa} {fn : List He.DefD} {gs : List (Str × D)} {xs : List Nat} {g : Addr → Option Obj} {s : Shared} (h : ∀ a, g a = s.heap.get? a) : obsG n fa fn gs xs g = (hookM n fa fn gs xs).obs s := by
  have e : g = s.heap.get? := funext h
  rw [e] <;> rfl

/-! ### the table -/
/-- one def: as it stands, its frame's names, its parameters, its term -/
structure MDef where
  d : He.DefD
  N : List Str
  ps : List Str
  fn : Fn
def dvIs : He.Dv → D → Bool
  | .non, .non => true
  | .bl a, .bl b => a == b
  | .int a, .int b => a == b
  | .str a, .str b => a == b
  | _, _ => false
def dvsAre : List He.Dv → List D → Bool
  | [], [] => true
  | x :: xs, y :: ys => dvIs x y && dvsAre xs ys
  | _, _ => false
theorem dvIs_eq {K : PySem.W.Frag} : ∀ {x : He.Dv} {y : D}, dvIs x y = true → He.Dv.v K x = atomV y := by
  intro x y h
  cases x <;> cases y <;> simp_all [dvIs, He.Dv.v, atomV]
theorem dvsAre_eq {K : PySem.W.Frag} : ∀ {xs : List He.Dv} {ys : List D}, dvsAre xs ys = true → xs.map (He.Dv.v K) = ys.map atomV
  | [], [], _ => rfl
  | x :: xs, y :: ys, h => by
    simp only [dvsAre, Bool.and_eq_true] at h
    rw [List.map_cons, List.map_cons, dvIs_eq h.1, dvsAre_eq h.2]
  | [], _ :: _, h => by cases h
  | _ :: _, [], h => by cases h
def scB (N ps : List Str) (sc : Scope) : Bool := decide (sc.kind = .function) && !sc.isCoroutine && !sc.isGenerator && decide N.Nodup && decide (N.take ps.length = ps) &&
  ps.all (fun x => decide (sc.names.lookup x = some .local) || decide (sc.names.lookup x = some .cell)) && sc.names.all fun y => decide (y.2 ≠ .free)
theorem scB_ok {N ps : List Str} {sc : Scope} (h : scB N ps sc = true) : FnScope N ps sc := by
  simp only [scB, Bool.and_eq_true, Bool.not_eq_true', List.all_eq_true, Bool.or_eq_true, decide_eq_true_eq] at h
  obtain ⟨⟨⟨⟨⟨⟨h1, h2⟩, h3⟩, h4⟩, h5⟩, h6⟩, h7⟩ := h
  exact ⟨h1, h2, h3, h4, h5, h6, h7⟩
def MDef.okB (T : Tab) (m : MDef) : Bool := scB m.N m.ps m.d.scope && decide (m.ps.length = m.fn.np) && decide (m.fn.nv = m.N.length) && decide (m.d.at_ = (m.fn.name, none)) && dvsAre m.d.dfl m.fn.dfl && m.d.kwd.isEmpty && chkSs T m.N m.d.scope m.fn.body m.d.body
/-- how the arguments bind -/
def MDef.BindsOk (m : MDef) : Prop := ∀ (K : PySem.W.Frag) (f : Addr) (fd : FuncData), FunD K m.d.name m.d.qual m.d.params m.d.body m.d.scope (m.d.dvs K) (m.d.kws K) f fd →
  ∀ k, k ≤ m.fn.dfl.length → ∃ ds, Vals ((m.fn.dfl.drop (m.fn.dfl.length - k)).map atomV) ds ∧ Binds K fd m.ps ds
theorem binds_none {m : MDef} (hd : m.d.dfl = []) (hk : m.d.kwd = []) (hf : m.fn.dfl = []) (h : ∀ (kV doc pm : Value) (an : Option Addr) (cdv ct : Value) (us : List Value), us.length = m.ps.length → bindArgs (PySem.W.fnOf m.d.name m.d.qual m.d.params m.d.body m.d.scope .none kV doc pm an cdv ct) ⟨us, []⟩ = pure (m.ps.zip us)) : m.BindsOk := by
  intro K f fd F k hle
  have e : m.d.dvs K = [] := by unfold He.DefD.dvs; rw [hd]; rfl
  rw [e] at F
  refine ⟨[], ?_, F.bindsN h⟩
  rw [hf]
  simp
  exact .nil
def tabOf (ms : List MDef) (gs : List (Str × D) := []) (xs : List Nat := []) : Tab := ⟨ms.map (·.fn), gs, xs, false⟩
def faOf (ms : List MDef) : List He.Fa := ms.map (fun m => .glo m.fn.name) ++ bnames.map fun x => .free x
theorem fa_of {fa : List He.Fa} {fn : List He.DefD} {K : PySem.W.Frag} (c : He.SaysD fa fn K) {f : He.Fa} (h : f ∈ fa) : f.ok K = true := by
  obtain ⟨i, hi⟩ := List.getElem?_of_mem h
  exact c.fact i hi
section
variable {ms : List MDef} {gs : List (Str × D)} {xs : List Nat} {K : PySem.W.Frag} {h : Heap} {mg : Str → Option Value}
theorem def_of (X : K.In h) (G : h.Ns mainGlobals mg) (c : He.SaysD (faOf ms) (ms.map (·.d)) K) (hok : ms.all (MDef.okB (tabOf ms gs xs)) = true) (hb : ∀ m ∈ ms, m.BindsOk) {i : Nat} {m : MDef} (hi : ms[i]? = some m) :
    ∃ fd, FunD K m.d.name m.d.qual m.d.params m.d.body m.d.scope (m.d.dvs K) (m.d.kws K) (He.fAd K m.d.at_) fd ∧ Def K mg m.fn m.N m.ps m.d.body m.d.scope (He.fAd K m.d.at_) fd ∧ chkSs (tabOf ms gs xs) m.N m.d.scope m.fn.body m.d.body = true := by
  have hm := List.mem_of_getElem? hi
  have ho := List.all_eq_true.mp hok m hm
  simp only [MDef.okB, Bool.and_eq_true, decide_eq_true_eq] at ho
  obtain ⟨⟨⟨⟨⟨⟨h1, h2⟩, h3⟩, h4⟩, h5⟩, h6⟩, h7⟩ := ho
  obtain ⟨fd, F⟩ := c.def_ i (d := m.d) (by rw [List.getElem?_map, hi]; rfl)
  have g : mg m.fn.name = some (.ref (He.ga K m.fn.name)) := He.glo_ok X G (fa_of c (List.mem_append_left _ (List.mem_map.mpr ⟨m, hm, rfl⟩)))
  have ea : He.fAd K m.d.at_ = He.ga K m.fn.name := by rw [h4]; rfl
  exact ⟨fd, F, ⟨⟨_, _, _, _, _, F⟩, by rw [ea]; exact g, F.kp, hb m hm K _ fd F, scB_ok h1, h2, h3⟩, h7⟩
theorem x_of (X : K.In h) (G : h.Ns mainGlobals mg) (c : xs.all (clsB K) = true) : XFact K mg xs := fun d hd => by
  have k := clsB_ok (List.all_eq_true.mp c d hd)
  exact ⟨k, by rw [clsV_ref k.le]; exact He.glo_ok X G k.glo⟩
theorem free_of (X : K.In h) (G : h.Ns mainGlobals mg) (c : He.SaysD (faOf ms) (ms.map (·.d)) K) : ∀ x : String, x ∈ bnames → mg (x : Str) = none := fun x hx =>
  He.free_ok X G (fa_of c (List.mem_append_right _ (List.mem_map.mpr ⟨x, hx, rfl⟩)))
theorem facts_of {P : Program} {w : World} {base : Heap} (X : K.In h) (G : h.Ns mainGlobals mg) (c : He.SaysD (faOf ms) (ms.map (·.d)) K) (hok : ms.all (MDef.okB (tabOf ms gs xs)) = true) (hgs : gs.all (gOk K) = true) (hxs : xs.all (clsB K) = true) (hb : ∀ m ∈ ms, m.BindsOk) {n i : Nat} {m : MDef} (hi : ms[i]? = some m) :
    ∃ fd, FunD K m.d.name m.d.qual m.d.params m.d.body m.d.scope (m.d.dvs K) (m.d.kws K) (He.fAd K m.d.at_) fd ∧ mg m.fn.name = some (.ref (He.fAd K m.d.at_)) ∧
      ∀ base : Heap, GFn P w K mg base (L2.CX P w) (n + 1) (He.fAd K m.d.at_) fd m.ps (spD K (clsV K) (callN (tabOf ms gs xs).T (n + 1) i)) := by
  obtain ⟨fd, F, D0, hc⟩ := def_of X G c hok hb hi
  refine ⟨fd, F, D0.mg_, fun base => D0.okS (by show (ms.map (·.fn))[i]? = some m.fn; rw [List.getElem?_map, hi]; rfl) hc (free_of X G c) (gOk_fact X G hgs) (x_of X G hxs) (fun _ => rfl) rfl fun Y e1 e2 e3 e4 e5 j g hj => ?_⟩
  refine fn_facts (P := P) (w := w) (base := base) (T := tabOf ms gs xs) (free_of X G c) (gOk_fact X G hgs) (x_of X G hxs) (fun _ => rfl) rfl (fun k gn hk => ?_) n Y e1 e2 e3 e4 e5 j g hj
  have hk : (ms.map (·.fn))[k]? = some gn := hk
  rw [List.getElem?_map, Option.map_eq_some_iff] at hk
  obtain ⟨m', hm', rfl⟩ := hk
  obtain ⟨fd', F', D', hc'⟩ := def_of X G c hok hb hm'
  exact ⟨_, _, _, _, _, fd', D', hc'⟩
end
/-- the script at a law's entry -/
theorem law_sp {K : PySem.W.Frag} (nl : NoL K) {T : Tab} {n i : Nat} {cls : Nat → Value} {most : Nat} (hlaw : ∀ ns : List Int, ns.length ≤ most → ∃ st, callN T.T n i [.lst (ns.map D.int)] [] = .ok (.bl true) st) (H : Hp) (a : Addr) (ns : List Int) (hl : ns.length ≤ most) (hO : Only H) (hS : SqL K H a (ns.map V.int)) :
    spD K cls (callN T.T n i) [.ref a] H (fun v _ => v = .bl true) fun _ _ _ => False := by
  have rd : ∀ ns : List Int, RDs K H ⟨[], []⟩ (ns.map D.int) (ns.map V.int) := fun ns => by
    induction ns with
    | nil => exact .nil
    | cons x xs ih => exact .cons (.int x) ih
  refine ⟨⟨[], []⟩, [], [.lst (ns.map D.int)], ⟨List.nodup_nil, rfl, fun l a c h => by simp at h, fun a h => by simp at h⟩, .cons (.lst ?_ (rd ns)) .nil, ?_⟩
  · rcases hS with h | ⟨o, its, k, e, h1, _⟩
    · exact ⟨⟨by simp, by simp⟩, h⟩
    · exact absurd h1 (nl a o e)
  · obtain ⟨st, e⟩ := hlaw ns hl
    rw [e]
    intro m' v H' x hS' r
    cases r; rfl
/-- what an exception leaves, at whatever world -/
def CXe (P : Program) : CXT := fun outer H s E u s' => ∃ w : World, L2.CX P w outer H s E u s'
theorem fnok_e {P : Program} {w : World} {K : PySem.W.Frag} {mg : Str → Option Value} {base : Heap} {k : Nat} {f : Addr} {fd : FuncData} {ps : List Str} {sp : Sp} (F : GFn P w K mg base (L2.CX P w) k f fd ps sp) : GFn P w K mg base (CXe P) k f fd ps sp :=
  F.leaves fun _ _ _ _ _ _ z => ⟨w, z⟩
theorem cxe_none {P : Program} {H : Hp} {s : Shared} {e : Value} {s' : Shared} (h : CXe P [] H s (fun _ _ _ => False) e s') : False := by
  obtain ⟨w, _, _, _, _, _, _, _, _, _, _, _, _, z⟩ := h
  exact z
/-- the law's walk -/
theorem walk_ms {l : PySem.W.OpenLaw} {q : Program} {loose : List Str} {XP : (Str → Option Value) → Heap → Prop} {ms : List MDef} {gs : List (Str × D)} {xs : List Nat} {d : DefRec} {n i most : Nat} {m : MDef} {x : Str} (hn : l.most = some most) (hn2 : most ≤ sizeLine) (hdf : d.params.defaults = []) (hr : Room (n + 1) callerA)
    (hok : ms.all (MDef.okB (tabOf ms gs xs)) = true) (hb : ∀ m ∈ ms, m.BindsOk) (hi : ms[i]? = some m) (hx : m.ps = [x]) (hname : d.name = m.fn.name) (hd : m.d.dfl = [])
    (hbind : ∀ (kV doc pm : Value) (an : Option Addr) (cdv ct : Value) (us : List Value), us.length = m.ps.length → bindArgs (PySem.W.fnOf m.d.name m.d.qual m.d.params m.d.body m.d.scope .none kV doc pm an cdv ct) ⟨us, []⟩ = pure (m.ps.zip us))
    (hlaw : ∀ ns : List Int, ns.length ≤ most → ∃ st, callN (tabOf ms gs xs).T (n + 1) i [.lst (ns.map D.int)] [] = .ok (.bl true) st) :
    PySem.W.WalkO q loose XP (hookM 4 (faOf ms) (ms.map (·.d)) gs xs).says l.row.toRowW d [] (fun f vs => PySem.call f vs) := by
  refine walk_ofG (n := most) (k := n + 1) (x := x) (cx := CXe l.prog) hn hn2 hdf hr ?_ (fun _ _ _ _ z => cxe_none z)
  intro w mg fa h Y G hmg
  obtain ⟨K, KX, nl, c, hgs, hxs⟩ := Y
  obtain ⟨fd, F, g, hF⟩ := facts_of (P := l.prog) (w := w) (base := h) (n := n) KX G c hok hgs hxs hb hi
  rw [hname, g] at hmg
  cases hmg
  have F0 := F
  have e : m.d.dvs K = [] := by unfold He.DefD.dvs; rw [hd]; rfl
  rw [e] at F
  refine ⟨K, fd, _, KX, fun s u => ?_, fun H a ns hl hO hS => law_sp (cls := clsV K) nl hlaw H a ns hl hO hS, fun base hK hB => ?_⟩
  · have b := FunD.bindsA F hbind s [u] (by rw [hx]; rfl)
    rw [hx] at b
    exact b
  · have z := fnok_e (hF base)
    rw [hx] at z
    exact z
end Mi
/-! MiP: small steps of the plain language, as rules for simp. -/
namespace Mi
section
variable {st st' : Store} {l : Nat} {xs : List D} {i j : Int} {a b d : D}
@[simp] theorem look_int' : look st (.int i) = .int i := rfl
@[simp] theorem look_bl' {k : Bool} : look st (.bl k) = .bl k := rfl
@[simp] theorem look_str' {k : PySem.Str} : look st (.str k) = .str k := rfl
@[simp] theorem look_tup' : look st (.tup xs) = .tup xs := rfl
@[simp] theorem look_lst' : look st (.lst xs) = .lst xs := rfl
@[simp] theorem look_non' : look st .non = .non := rfl
theorem look_at (h : st[l]? = some (.lst xs)) : look st (.loc l) = .lst xs := by simp only [look, h]
/-- one of a list's things -/
def nth (xs : List D) (i : Int) : Option D := (ixN xs.length i).bind (xs[·]?)
theorem nth_nat {k : Nat} (h : k < xs.length) (e : i = (k : Int)) : nth xs i = xs[k]? := by
  subst e
  have : (k : Int) < xs.length := by omega
  simp [nth, ixN, this]
theorem nth_last (h : xs ≠ []) : nth xs (-1) = xs[xs.length - 1]? := by
  have h1 : 0 < xs.length := List.length_pos_iff.mpr h
  have h2 : -(xs.length : Int) ≤ -1 := by omega
  have h3 : (-1 + (xs.length : Int)).toNat = xs.length - 1 := by omega
  unfold nth ixN
  rw [if_neg (by decide), if_pos h2, h3]; rfl
theorem index_l (h : look st a = .lst xs) (e : nth xs i = some d) : index a (.int i) st = .ok d st := by
  unfold index; rw [h]; unfold nth at e; simp only [e]
theorem index_t (h : look st a = .tup xs) (e : nth xs i = some d) : index a (.int i) st = .ok d st := by
  unfold index; rw [h]; unfold nth at e; simp only [e]
@[simp] theorem eq_int : compop .eq (.int i) (.int j) st = .ok (.bl (i == j)) st := by simp [compop, comparable, Mi.plain, dep, eqv]
@[simp] theorem ne_int : compop .ne (.int i) (.int j) st = .ok (.bl (!(i == j))) st := by simp [compop, comparable, Mi.plain, dep, eqv]
@[simp] theorem lt_int : compop .lt (.int i) (.int j) st = .ok (.bl (decide (i < j))) st := rfl
@[simp] theorem gt_int : compop .gt (.int i) (.int j) st = .ok (.bl (decide (j < i))) st := rfl
@[simp] theorem le_int : compop .le (.int i) (.int j) st = .ok (.bl (!decide (j < i))) st := rfl
@[simp] theorem ge_int : compop .ge (.int i) (.int j) st = .ok (.bl (!decide (i < j))) st := rfl
@[simp] theorem add_int {fz : Bool} : binop .add fz (.int i) (.int j) st = .ok (.int (i + j)) st := rfl
@[simp] theorem sub_int {fz : Bool} : binop .sub fz (.int i) (.int j) st = .ok (.int (i - j)) st := rfl
theorem mul_int {fz : Bool} (h : small64 i = true ∨ small64 j = true) : binop .mul fz (.int i) (.int j) st = .ok (.int (i * j)) st := by
  simp only [binop, look_int']
  rcases h with h | h <;> simp [h]
theorem mod_int {fz : Bool} (h : j ≠ 0) : binop .mod fz (.int i) (.int j) st = .ok (.int (i.fmod j)) st := by simp [binop, h]
theorem fdiv_int {fz : Bool} (h : j ≠ 0) (h2 : j.natAbs < 1073741824) : binop .fdiv fz (.int i) (.int j) st = .ok (.int (i.fdiv j)) st := by simp [binop, h, h2]
theorem pow_int {fz : Bool} (h : 0 ≤ j) (h1 : j ≤ 1000000) (h2 : i.natAbs < 2 ^ 64) : binop .pow fz (.int i) (.int j) st = .ok (.int (i ^ j.toNat)) st := by
  unfold binop
  simp only
  rw [if_pos ⟨h, h1, h2⟩]
@[simp] theorem truth_bl {k : Bool} : truth st (.bl k) = some k := rfl
@[simp] theorem truth_int : truth st (.int i) = some (i != 0) := rfl
@[simp] theorem asBool_ok {k : Bool} : asBool (.ok (.bl k) st) = .ok k st := rfl
@[simp] theorem asBool_okI : asBool (.ok (.int i) st) = .ok (i != 0) st := rfl
theorem set_at (h : st[l]? = some (.lst xs)) {k : Nat} (hk : ixN xs.length i = some k) : setitem (.loc l) (.int i) d st = .ok () (st.set l (.lst (xs.set k d))) := by
  unfold setitem; simp only [h, hk]
theorem at_set {c : Cell} (h : st[l]? = some (.lst xs)) : (st.set l c)[l]? = some c := List.getElem?_set_self (List.getElem?_eq_some_iff.mp h).1
theorem len_l (h : look st a = .lst xs) {fz : Bool} : prim .len fz [a] st = .ok (.int xs.length) st := by simp only [prim, h]
theorem len_t (h : look st a = .tup xs) {fz : Bool} : prim .len fz [a] st = .ok (.int xs.length) st := by simp only [prim, h]
@[simp] theorem bool_asInt {k fz : Bool} : prim .int fz [.bl k] st = .ok (.int (b2i k)) st := rfl
@[simp] theorem min_int {fz : Bool} : prim .min fz [.int i, .int j] st = .ok (.int (if j < i then j else i)) st := rfl
@[simp] theorem max_int {fz : Bool} : prim .max fz [.int i, .int j] st = .ok (.int (if j > i then j else i)) st := rfl
theorem keeps_set {c : Cell} (h : cflat c = true) : Keeps st (st.set l c) := by
  refine ⟨by simp, fun k hk => ?_⟩
  by_cases e : l = k
  · subst e; exact .inr ⟨c, by simp [hk], h⟩
  · exact .inl (by simp [List.getElem?_set_ne e])
theorem keeps_refl : Keeps st st := ⟨Nat.le_refl _, fun _ _ => .inl rfl⟩
theorem canon_int (k : Keeps st st') : canon st (.int i) st' = .ok (.int i) (st'.take st.length) := by
  unfold canon
  rw [if_pos k]
  simp only [frz]
theorem canon_bl {v : Bool} (k : Keeps st st') : canon st (.bl v) st' = .ok (.bl v) (st'.take st.length) := by
  unfold canon
  rw [if_pos k]
  simp only [frz]
@[simp] theorem leave_rt : leave st (.rt d st') = canon st d st' := rfl
@[simp] theorem leave_nx {ρ : Env} : leave st (.nx ρ st') = canon st .non st' := rfl
theorem keeps_trans {s1 s2 s3 : Store} (x : Keeps s1 s2) (y : Keeps s2 s3) : Keeps s1 s3 := by
  refine ⟨Nat.le_trans x.1 y.1, fun l hl => ?_⟩
  rcases y.2 l (Nat.lt_of_lt_of_le hl x.1) with e | h
  · rw [e]; exact x.2 l hl
  · exact .inr h
theorem callN_s {T : List Fn} {n k : Nat} {fn : Fn} {ds : List D} (hT : T[k]? = some fn) (hl : ds.length = fn.np) : callN T (n + 1) k ds st = leave st (exs (callN T n) fn.body (startE fn ds) st) := by
  unfold callN
  rw [hT]
  simp only [hl, if_true]
@[simp] theorem take_set {c : Cell} : (st.set l c).take st.length = st.set l c := List.take_of_length_le (by simp)
@[simp] theorem freeze_int {n : Nat} : freezeTop n (.ok (.int i) st) = .ok (.int i) st := rfl
@[simp] theorem freeze_bl {n : Nat} {k : Bool} : freezeTop n (.ok (.bl k) st) = .ok (.bl k) st := rfl
@[simp] theorem freeze_tup {n : Nat} : freezeTop n (.ok (.tup xs) st) = .ok (.tup xs) st := rfl
@[simp] theorem freeze_lst {n : Nat} : freezeTop n (.ok (.lst xs) st) = .ok (.lst xs) st := rfl
end
section
variable {ck : Store → Prop} {f : D → Env → Store → F}
/-- a loop that goes on, by an invariant that counts the turns -/
theorem loopF_inv (P : Nat → Env → Store → Prop) : ∀ {xs : List D} {k : Nat} {ρ : Env} {s : Store} (_ : ∀ j ρ s, P j ρ s → ck s) (_ : ∀ (j : Nat) (x : D), xs[j]? = some x → ∀ ρ s, P (k + j) ρ s → ∃ ρ' s', f x ρ s = .nx ρ' s' ∧ P (k + j + 1) ρ' s') (_ : P k ρ s),
    ∃ ρ' s', loopF ck f xs ρ s = .nx ρ' s' ∧ P (k + xs.length) ρ' s'
  | [], k, ρ, s, hc, _, h => ⟨ρ, s, by unfold loopF; rw [if_pos (hc _ _ _ h)], h⟩
  | x :: xs, k, ρ, s, hc, hf, h => by
    obtain ⟨ρ1, s1, e1, h1⟩ := hf 0 x rfl ρ s h
    obtain ⟨ρ2, s2, e2, h2⟩ := loopF_inv P (xs := xs) (k := k + 1) hc (fun j y hj ρ s hp => by
      have q := hf (j + 1) y (by simpa using hj) ρ s (by rw [show k + (j + 1) = k + 1 + j by omega]; exact hp)
      rw [show k + (j + 1) + 1 = k + 1 + j + 1 by omega] at q
      exact q) h1
    refine ⟨ρ2, s2, ?_, ?_⟩
    · unfold loopF
      rw [if_pos (hc _ _ _ h), e1]
      exact e2
    · rw [List.length_cons, show k + (xs.length + 1) = k + 1 + xs.length by omega]
      exact h2
/-- a comprehension whose parts are plain: it keeps what p says, as g makes it -/
theorem loopC_map {ck : Store → Prop} {f : D → Store → R (Option D)} {s : Store} (hc : ck s) (g : D → Option D) : ∀ {xs : List D}, (∀ x ∈ xs, f x s = .ok (g x) s) → loopC ck f xs s = .ok (xs.filterMap g) s
  | [], _ => by unfold loopC; rw [if_pos hc]; rfl
  | x :: xs, h => by
    unfold loopC
    rw [if_pos hc, h x (.head _)]
    simp only [R.bind_ok]
    rw [loopC_map hc g fun y hy => h y (.tail _ hy)]
    simp only [R.bind_ok, List.filterMap_cons]
    cases g x <;> rfl
theorem plains_ints : ∀ ns : List Int, plains (ns.map D.int) = true
  | [] => rfl
  | n :: ns => by rw [List.map_cons]; simp only [plains, Mi.plain, plains_ints ns]; rfl
theorem deps_ints : ∀ ns : List Int, deps (ns.map D.int) = 0
  | [] => rfl
  | n :: ns => by rw [List.map_cons]; simp [deps, dep, deps_ints ns]
theorem eqvs_ints : ∀ ns ms : List Int, eqvs (ns.map D.int) (ms.map D.int) = (ns == ms)
  | [], [] => rfl
  | [], _ :: _ => rfl
  | _ :: _, [] => rfl
  | n :: ns, m :: ms => by
    rw [List.map_cons, List.map_cons]
    simp only [eqvs, eqv, eqvs_ints ns ms]
    rfl
theorem intsD_ints : ∀ ns : List Int, intsD (ns.map D.int) = some ns
  | [] => rfl
  | n :: ns => by rw [List.map_cons]; simp [intsD, intsD_ints ns]
end
/-- one turn of a comprehension -/
noncomputable def cstep (cf : Nat → List D → Store → R D) (own tg : List Nat) (one : Bool) (c : List E) (elt : E) (ρ : Env) (x : D) (s : Store) : R (Option D) := match bindT tg one s x (wipe ρ own) with
  | some ρ1 => (evc cf c ρ1 s).calm.bind fun k s => if k then (ev cf elt ρ1 s).calm.bind fun d s => .ok (some d) s else .ok none s
  | none => .fault
theorem ev_comp {cf : Nat → List D → Store → R D} {fz one : Bool} {own tg : List Nat} {it elt : E} {c : List E} {ρ : Env} {st : Store} : ev cf (.comp fz own tg one it c elt) ρ st = (evI cf it ρ st).bind fun w st => (loopC (fun s => stands s w.1 w.2) (cstep cf own tg one c elt ρ) w.1 st).bind fun ds st => made fz ds st := by
  unfold ev; rfl
/-- one turn of a loop -/
noncomputable def fstep (cf : Nat → List D → Store → R D) (tg : List Nat) (one : Bool) (b : List S) (x : D) (ρ : Env) (s : Store) : F := match bindT tg one s x ρ with
  | some ρ1 => exs cf b ρ1 s
  | none => .fault
theorem ex_for {cf : Nat → List D → Store → R D} {one : Bool} {tg : List Nat} {it : E} {b : List S} {ρ : Env} {st : Store} : ex cf (.forr tg one it b) ρ st = (evI cf it ρ st).toF ρ fun w st => loopF (fun s => stands s w.1 w.2) (fstep cf tg one b) w.1 ρ st := by
  unfold ex; rfl
theorem fm_len {g : Nat → Option D} {p : Nat → Bool} (h : ∀ k, (g k).isSome = p k) : ∀ ks : List Nat, (ks.filterMap g).length = (ks.filter p).length
  | [] => rfl
  | k :: ks => by
    have ih := fm_len h ks
    have hk := h k
    rw [List.filterMap_cons, List.filter_cons, ← hk]
    cases g k <;> simp [ih]
theorem exs_cons {cf : Nat → List D → Store → R D} {s : S} {ss : List S} {ρ : Env} {st : Store} : exs cf (s :: ss) ρ st = (ex cf s ρ st).thn fun ρ st => exs cf ss ρ st := by rw [exs]
theorem made_ok {ds : List D} {st : Store} (h : ds.length ≤ PySem.sizeLine) : made true ds st = .ok (.lst ds) st := by
  unfold made; rw [if_pos h]; rfl
end Mi
/-! MiQ: more plain steps: flat data, texts, loops with a way out, ranges. -/
namespace Mi
open PySem
section
variable {st st' : Store} {n : Nat}
/-- no place at all, also within -/
theorem flats_mem : ∀ {xs : List D}, flats xs = true → ∀ x ∈ xs, flat x = true
  | [], _, x, hx => by cases hx
  | y :: ys, h, x, hx => by
    simp only [flats, Bool.and_eq_true] at h
    cases hx with
    | head => exact h.1
    | tail _ hx => exact flats_mem h.2 x hx
theorem mem_flats : ∀ {xs : List D}, (∀ x ∈ xs, flat x = true) → flats xs = true
  | [], _ => rfl
  | y :: ys, h => by
    simp only [flats, Bool.and_eq_true]
    exact ⟨h y (.head _), mem_flats fun x hx => h x (.tail _ hx)⟩
mutual
theorem flat_below' (n : Nat) : ∀ {d : D}, flat d = true → below n d = true
  | .non, _ => rfl
  | .bl _, _ => rfl
  | .int _, _ => rfl
  | .zr, _ => rfl
  | .str _, _ => rfl
  | .exc _, _ => rfl
  | .odd, _ => rfl
  | .loc _, h => by cases h
  | .tup xs, h => by unfold below; exact flats_below' n (by simpa [flat] using h)
  | .lst xs, h => by unfold below; exact flats_below' n (by simpa [flat] using h)
theorem flats_below' (n : Nat) : ∀ {d : List D}, flats d = true → belows n d = true
  | [], _ => rfl
  | x :: xs, h => by
    simp only [flats, Bool.and_eq_true] at h
    unfold belows
    rw [flat_below' n h.1, flats_below' n h.2]; rfl
end
mutual
theorem frz_flat : ∀ {d : D}, flat d = true → frz st n d = some d
  | .non, _ => by simp only [frz]
  | .bl _, _ => by simp only [frz]
  | .int _, _ => by simp only [frz]
  | .zr, _ => by simp only [frz]
  | .str _, _ => by simp only [frz]
  | .exc _, _ => by simp only [frz]
  | .odd, _ => by simp only [frz]
  | .loc _, h => by cases h
  | .tup xs, h => by simp only [frz]; rw [frzs_flat (by simpa [flat] using h)]; rfl
  | .lst xs, h => by simp only [frz]; rw [if_pos (flats_below' n (by simpa [flat] using h))]
theorem frzs_flat : ∀ {d : List D}, flats d = true → frzs st n d = some d
  | [], _ => by simp only [frzs]
  | x :: xs, h => by
    simp only [flats, Bool.and_eq_true] at h
    simp only [frzs]
    rw [frz_flat h.1, frzs_flat h.2]
end
theorem canon_flat {d : D} (k : Keeps st st') (h : flat d = true) : canon st d st' = .ok d (st'.take st.length) := by
  unfold canon
  rw [if_pos k]
  split
  · cases h
  · rw [frz_flat h]
theorem canon_flat0 {d : D} (h : flat d = true) : canon st d st = .ok d st := by
  rw [canon_flat keeps_refl h, List.take_length]
theorem freeze_flat {d : D} (h : flat d = true) : freezeTop n (.ok d st) = .ok d st := by
  cases d <;> first | rfl | cases h
@[simp] theorem freeze_str {s : Str} : freezeTop n (.ok (.str s) st) = .ok (.str s) st := rfl
@[simp] theorem freeze_non : freezeTop n (.ok .non st) = .ok .non st := rfl
theorem belows_app {n : Nat} : ∀ {xs ys : List D}, belows n (xs ++ ys) = (belows n xs && belows n ys)
  | [], ys => by simp [belows]
  | x :: xs, ys => by simp [belows, belows_app (xs := xs), Bool.and_assoc]
/-! texts -/
theorem slen_app (x y : Str) : (x ++ y).length = x.length + y.length := by
  show (x.cps ++ y.cps).size = _
  simp [Str.length]
theorem slen_join : ∀ ys : List Str, (Txt.join ⟨#[]⟩ ys).length = (ys.map (·.length)).sum := by
  intro ys
  rw [TL.join_eq]
  induction ys with
  | nil => rfl
  | cons x ys ih =>
    cases ys with
    | nil => simp [Str.join]
    | cons y ys =>
      show (x ++ (⟨#[]⟩ : Str) ++ Str.join ⟨#[]⟩ (y :: ys)).length = _
      rw [slen_app, slen_app, ih]
      simp [Str.length]
theorem strsD_map : ∀ zs : List Str, strsD (zs.map D.str) = some zs
  | [] => rfl
  | z :: zs => by rw [List.map_cons]; simp [strsD, strsD_map zs]
theorem plains_all : ∀ {xs : List D}, (∀ x ∈ xs, plain x = true) → plains xs = true
  | [], _ => rfl
  | x :: xs, h => by simp only [plains, Bool.and_eq_true]; exact ⟨h x (.head _), plains_all fun y hy => h y (.tail _ hy)⟩
theorem chars_str {s : Str} : ∀ x ∈ chars s, ∃ c, x = .str ⟨#[c]⟩ := by
  intro x hx
  obtain ⟨c, _, rfl⟩ := List.mem_map.mp hx
  exact ⟨c, rfl⟩
/-! loops -/
theorem loopF_all {ck : Store → Prop} {f : D → Env → Store → F} (hc : ck st) (p : D → Bool) (d : D) (I : Env → Prop) : ∀ {xs : List D} {ρ : Env}, (∀ x ∈ xs, ∀ ρ, I ρ → if p x then ∃ ρ', f x ρ st = .nx ρ' st ∧ I ρ' else f x ρ st = .rt d st) → I ρ →
    (xs.all p = true ∧ ∃ ρ', loopF ck f xs ρ st = .nx ρ' st ∧ I ρ') ∨ (xs.all p = false ∧ loopF ck f xs ρ st = .rt d st)
  | [], ρ, _, hi => .inl ⟨rfl, ρ, by unfold loopF; rw [if_pos hc], hi⟩
  | x :: xs, ρ, h, hi => by
    have h0 := h x (.head _) ρ hi
    unfold loopF
    rw [if_pos hc]
    by_cases e : p x = true
    · rw [if_pos e] at h0
      obtain ⟨ρ', e1, hi'⟩ := h0
      rw [e1]
      simp only [List.all_cons, e, Bool.true_and]
      exact loopF_all hc p d I (fun y hy => h y (.tail _ hy)) hi'
    · rw [if_neg e] at h0
      rw [h0]
      refine .inr ⟨by simp [e], rfl⟩
/-- each turn gives one thing; the store goes along -/
theorem loopC_all {ck : Store → Prop} {f : D → Store → R (Option D)} (P : Nat → Store → Prop) (q : Nat → D → Prop) : ∀ {xs : List D} {k : Nat} {s : Store}, (∀ j s, P j s → ck s) → (∀ (j : Nat) (x : D), xs[j]? = some x → ∀ s, P (k + j) s → ∃ d s', f x s = .ok (some d) s' ∧ P (k + j + 1) s' ∧ q (k + j) d) → P k s →
    ∃ ys s', loopC ck f xs s = .ok ys s' ∧ P (k + xs.length) s' ∧ ys.length = xs.length ∧ ∀ (j : Nat) (d : D), ys[j]? = some d → q (k + j) d
  | [], k, s, hc, _, h => ⟨[], s, by unfold loopC; rw [if_pos (hc _ _ h)], h, rfl, fun j d e => by simp at e⟩
  | x :: xs, k, s, hc, hf, h => by
    obtain ⟨d, s1, e1, h1, hq⟩ := hf 0 x rfl s h
    obtain ⟨ys, s2, e2, h2, hl, hy⟩ := loopC_all P q (xs := xs) (k := k + 1) hc (fun j y hj s hp => by
      have q := hf (j + 1) y (by simpa using hj) s (by rw [show k + (j + 1) = k + 1 + j by omega]; exact hp)
      rw [show k + (j + 1) + 1 = k + 1 + j + 1 by omega, show k + (j + 1) = k + 1 + j by omega] at q
      exact q) h1
    refine ⟨d :: ys, s2, ?_, ?_, by simp [hl], fun j e he => ?_⟩
    · unfold loopC
      rw [if_pos (hc _ _ h), e1]
      simp only [R.bind_ok, e2]
      rfl
    · rw [List.length_cons, show k + (xs.length + 1) = k + 1 + xs.length by omega]
      exact h2
    · cases j with
      | zero => simp at he; subst he; exact hq
      | succ j =>
        have := hy j e (by simpa using he)
        rwa [show k + 1 + j = k + (j + 1) by omega] at this
/-! ranges -/
theorem inR (n : Nat) (h : n ≤ 100000) : inRange (n : Int) = true := by
  unfold inRange
  rw [Bool.and_eq_true]
  have e : (2 : Int) ^ 62 = 4611686018427387904 := by decide
  rw [e]
  exact ⟨decide_eq_true (by omega), decide_eq_true (by omega)⟩
theorem inRI {i : Int} (h : 0 ≤ i) (h2 : i ≤ 100000) : inRange i = true := by
  have := inR i.toNat (by omega)
  rwa [show ((i.toNat : Nat) : Int) = i by omega] at this
theorem rangeD2 {i j : Int} (hi : inRange i = true) (hj : inRange j = true) : rangeD [.int i, .int j] = some ((List.range (j - i).toNat).map fun (k : Nat) => .int (i + (k : Int))) := by
  unfold rangeD
  simp only [hi, hj, Bool.and_self, if_true]
theorem rangeD1 {j : Int} (hj : inRange j = true) : rangeD [.int j] = some ((List.range j.toNat).map fun (k : Nat) => .int (0 + (k : Int))) := by
  unfold rangeD
  simp only [hj, if_true]
theorem iRng_ev {cf : Nat → List D → Store → R D} {es : List E} {ρ : Env} {st st' : Store} {ds xs : List D} (h : evs cf es ρ st = .ok ds st') (hr : rangeD ds = some xs) : evI cf (.iRng es) ρ st = .ok (xs, none) st' := by
  unfold evI
  rw [h]
  simp only [R.bind_ok, hr]
theorem small_le {a b : Nat} (h : a ≤ b) (h2 : b ≤ 16000000) : a ≤ sizeLine := by
  have := sizeLine_eq
  omega
/-! the place of a state, whose middle part moves -/
def stb (st : Store) (l : Nat) (a c b : Int) : Store := st.set l (.lst [.int a, .int b, .int c])
theorem stb_stb {l : Nat} {a c b b' : Int} : stb (stb st l a c b) l a c b' = stb st l a c b' := by unfold stb; rw [List.set_set]
theorem stb_at {l : Nat} {a c b : Int} (h : l < st.length) : (stb st l a c b)[l]? = some (.lst [.int a, .int b, .int c]) := by unfold stb; rw [List.getElem?_set_self h]
theorem stb_self {l : Nat} {a c b : Int} (h : st[l]? = some (.lst [.int a, .int b, .int c])) : stb st l a c b = st := by
  unfold stb
  obtain ⟨h1, h2⟩ := List.getElem?_eq_some_iff.mp h
  rw [← h2, List.set_getElem_self]
theorem stb_len {l : Nat} {a c b : Int} : (stb st l a c b).length = st.length := by unfold stb; simp
theorem stb_keeps {l : Nat} {a c b b' : Int} : Keeps (stb st l a c b) (stb st l a c b') := by
  have e : stb st l a c b' = (stb st l a c b).set l (.lst [.int a, .int b', .int c]) := stb_stb.symm
  rw [e]; exact keeps_set rfl
theorem stb_canon {l : Nat} {a c b b' : Int} {d : D} (h : flat d = true) : canon (stb st l a c b) d (stb st l a c b') = .ok d (stb st l a c b') := by
  rw [canon_flat stb_keeps h, stb_len, List.take_of_length_le (by rw [stb_len]; exact Nat.le_refl _)]
end
end Mi
/-! DrA: what the laws draw from: states, numbers, kept words, words. The bodies are the laws' own, by the places of the defs they call. -/
namespace Dr
open PySem Mi
def bSt : List S := [.asg 2 (.bin .add true (.bin .mod true (.prm .sum true [(.var 0)]) (.cst (.int 1000003))) (.bin .mul true (.cst (.int 104729)) (.var 1))), .iff (.cmp .lt (.var 1) (.prm .len true [(.var 0)])) [.asg 2 (.idx (.var 0) (.var 1))] [], .iff (.cmp .ge (.var 2) (.bin .pow true (.cst (.int 10)) (.cst (.int 18)))) [.ret (.lst false [(.cst (.int 0)), (.bin .sub true (.var 2) (.bin .pow true (.cst (.int 10)) (.cst (.int 18)))), (.var 1)])] [], .ret (.lst false [(.cst (.int 1)), (.bin .mod true (.bin .add true (.bin .add true (.bin .add true (.bin .mul true (.bin .mod true (.var 2) (.cst (.int 2147483647))) (.cst (.int 48271))) (.bin .mul true (.cst (.int 7919)) (.var 1))) (.prm .len true [(.var 0)])) (.cst (.int 11))) (.cst (.int 2147483647))), (.bin .add true (.var 1) (.cst (.int 1)))])]
def bNx : List S := [.iff (.cmp .eq (.idx (.var 0) (.cst (.int 0))) (.cst (.int 0))) [.asg 3 (.bin .mod true (.idx (.var 0) (.cst (.int 1))) (.var 1)), .seti (.var 0) (.cst (.int 1)) (.bin .fdiv true (.idx (.var 0) (.cst (.int 1))) (.var 1)), .ret (.var 3)] [], .seti (.var 0) (.cst (.int 1)) (.bin .mod true (.bin .add true (.bin .mul true (.idx (.var 0) (.cst (.int 1))) (.cst (.int 48271))) (.idx (.var 0) (.cst (.int 2)))) (.cst (.int 2147483647))), .asg 2 (.bin .mod true (.bin .mul true (.idx (.var 0) (.cst (.int 1))) (.idx (.var 0) (.cst (.int 1)))) (.cst (.int 2147483629))), .ret (.bin .mod true (.bin .fdiv true (.bin .mod true (.bin .mul true (.var 2) (.var 2)) (.cst (.int 2147483587))) (.cst (.int 7))) (.var 1))]
def bKp : List S := [.asg 0 (.cst (.str "again alike as at blame box by cover end few free grip hand if kept least link look")), .asg 0 (.bin .add true (.var 0) (.cst (.str " make move name named none rely room rows run safe sheet sure there to uses worth"))), .ret (.mth .split true (.bin .add true (.var 0) (.cst (.str " write"))) [(.cst (.str " "))])]
theorem next_ok {T : List Fn} {i n : Nat} (hT : T[i]? = some ⟨"_law_next", 2, 4, [], bNx⟩) {st : Store} {l : Nat} {a b c sz : Int} (hl : l < st.length) (hs : 0 < sz) (hs2 : sz < 1000000) :
    ∃ r b', 0 ≤ r ∧ r < sz ∧ callN T (n + 1) i [.loc l, .int sz] (stb st l a c b) = .ok (.int r) (stb st l a c b') := by
  have m0 : ∀ x : Int, 0 ≤ x.fmod sz := fun x => Int.fmod_nonneg_of_pos _ hs
  have m1 : ∀ x : Int, x.fmod sz < sz := fun x => Int.fmod_lt_of_pos _ hs
  have n0 : sz ≠ 0 := by omega
  have n1 : sz.natAbs < 1073741824 := by omega
  have hb : ∀ b, (stb st l a c b)[l]? = some (.lst [.int a, .int b, .int c]) := fun b => stb_at hl
  have lk : ∀ b, index (.loc l) (.int 0) (stb st l a c b) = .ok (.int a) (stb st l a c b) ∧ index (.loc l) (.int 1) (stb st l a c b) = .ok (.int b) (stb st l a c b) ∧ index (.loc l) (.int 2) (stb st l a c b) = .ok (.int c) (stb st l a c b) :=
    fun b => ⟨index_l (look_at (hb b)) rfl, index_l (look_at (hb b)) rfl, index_l (look_at (hb b)) rfl⟩
  have st1 : ∀ b v, setitem (.loc l) (.int 1) (.int v) (stb st l a c b) = .ok () (stb st l a c v) := fun b v => by
    rw [set_at (k := 1) (hb b) rfl]
    show R.ok () (stb (stb st l a c b) l a c v) = _
    rw [stb_stb]
  rw [callN_s hT rfl]
  by_cases ha : a = 0
  · subst ha
    refine ⟨b.fmod sz, b.fdiv sz, m0 _, m1 _, ?_⟩
    rw [← stb_canon (b := b) rfl]
    simp [startE, bNx, exs, ex, ev, evs, lk, mod_int n0, fdiv_int n0 n1, st1]
  · have sn : ∀ x : Int, small64 (x.fmod 2147483647) = true := fun x => by
      have h1 := Int.fmod_nonneg_of_pos x (b := 2147483647) (by decide)
      have h2 := Int.fmod_lt_of_pos x (b := 2147483647) (by decide)
      simp [small64]; omega
    have sk : ∀ x : Int, small64 (x.fmod 2147483629) = true := fun x => by
      have h1 := Int.fmod_nonneg_of_pos x (b := 2147483629) (by decide)
      have h2 := Int.fmod_lt_of_pos x (b := 2147483629) (by decide)
      simp [small64]; omega
    have s48 : small64 48271 = true := by decide
    refine ⟨(((((b * 48271 + c).fmod 2147483647 * (b * 48271 + c).fmod 2147483647).fmod 2147483629 * ((b * 48271 + c).fmod 2147483647 * (b * 48271 + c).fmod 2147483647).fmod 2147483629).fmod 2147483587).fdiv 7).fmod sz, ((b * 48271 + c).fmod 2147483647), m0 _, m1 _, ?_⟩
    rw [← stb_canon (b := b) rfl]
    simp [startE, bNx, exs, ex, ev, evs, lk, ha, mod_int, n0, fdiv_int, n1, st1, mul_int, s48, sn, sk]
theorem state_ok {T : List Fn} {i n : Nat} (h1 : T[i]? = some ⟨"_law_state", 2, 3, [], bSt⟩) {st : Store} {ns : List Int} {k : Nat} : ∃ a b c : Int, callN T (n + 1) i [.lst (ns.map D.int), .int k] st = .ok (.loc st.length) (st ++ [.lst [.int a, .int b, .int c]]) := by
  rw [callN_s h1 rfl]
  have cl : ∀ a b c : Int, canon st (.loc st.length) (st ++ [.lst [.int a, .int b, .int c]]) = .ok (.loc st.length) (st ++ [.lst [.int a, .int b, .int c]]) := fun a b c => by
    unfold canon
    rw [if_pos ⟨by simp, fun l hl => .inl (by rw [List.getElem?_append_left hl])⟩]
    simp [cbelow, belows, below]
  have sumE : ∀ fz, prim .sum fz [.lst (ns.map D.int)] st = .ok (.int ns.sum) st := fun fz => by simp [prim, intsD_ints]
  have p18 : ∀ (s : Store) (fz : Bool), binop .pow fz (.int 10) (.int 18) s = .ok (.int (10 ^ 18)) s := fun s fz => pow_int (by decide) (by decide) (by decide)
  have sn : ∀ x : Int, small64 (x.fmod 2147483647) = true := fun x => by
    have h1 := Int.fmod_nonneg_of_pos x (b := 2147483647) (by decide)
    have h2 := Int.fmod_lt_of_pos x (b := 2147483647) (by decide)
    simp [small64]; omega
  have s1 : small64 104729 = true := by decide
  have s2 : small64 7919 = true := by decide
  have fin : ∀ (x : Int) (ρ0 : Mi.Env) , ∃ a b c : Int, leave st (exs (callN T n) [.iff (.cmp .ge (.var 2) (.bin .pow true (.cst (.int 10)) (.cst (.int 18)))) [.ret (.lst false [(.cst (.int 0)), (.bin .sub true (.var 2) (.bin .pow true (.cst (.int 10)) (.cst (.int 18)))), (.var 1)])] [], .ret (.lst false [(.cst (.int 1)), (.bin .mod true (.bin .add true (.bin .add true (.bin .add true (.bin .mul true (.bin .mod true (.var 2) (.cst (.int 2147483647))) (.cst (.int 48271))) (.bin .mul true (.cst (.int 7919)) (.var 1))) (.prm .len true [(.var 0)])) (.cst (.int 11))) (.cst (.int 2147483647))), (.bin .add true (.var 1) (.cst (.int 1)))])] [some (.lst (ns.map D.int)), some (.int k), some (.int x)] st) = .ok (.loc st.length) (st ++ [.lst [.int a, .int b, .int c]]) := fun x _ => by
    by_cases hx : x < 10 ^ 18
    · refine ⟨1, (x.fmod 2147483647 * 48271 + 7919 * (k : Int) + (ns.length : Int) + 11).fmod 2147483647, (k : Int) + 1, ?_⟩
      rw [← cl]
      simp only [exs, ex, ev, evs, List.getElem?_cons_zero, List.getElem?_cons_succ, R.bind_ok, p18, ge_int, hx, decide_true, Bool.not_true, asBool_ok, R.toF_ok, Bool.false_eq_true, if_false, F.thn_nx, mod_int (show (2147483647 : Int) ≠ 0 by decide), mul_int (.inl (sn _)), mul_int (.inl s2), len_l look_lst', add_int]
      simp [made, PySem.sizeLine]
    · refine ⟨0, x - 10 ^ 18, (k : Int), ?_⟩
      rw [← cl]
      simp only [exs, ex, ev, evs, List.getElem?_cons_zero, List.getElem?_cons_succ, R.bind_ok, p18, ge_int, hx, decide_false, Bool.not_false, asBool_ok, R.toF_ok, if_true, F.thn_nx, sub_int]
      simp [made, PySem.sizeLine]
  have e0 : ∀ x : Int, exs (callN T n) bSt (startE ⟨"_law_state", 2, 3, [], bSt⟩ [.lst (ns.map D.int), .int k]) st = exs (callN T n) bSt [some (.lst (ns.map D.int)), some (.int k), none] st := fun _ => rfl
  by_cases hk : k < ns.length
  · obtain ⟨a, b, c, e⟩ := fin (ns[k]) []
    refine ⟨a, b, c, ?_⟩
    have hn : nth (ns.map D.int) (k : Int) = some (.int ns[k]) := by simp [nth, ixN, hk]
    rw [e0 0, ← e]
    simp [bSt, exs, ex, ev, evs, sumE, mod_int, mul_int (.inl s1), len_l look_lst', hk, index_l look_lst' hn]
  · obtain ⟨a, b, c, e⟩ := fin (ns.sum.fmod 1000003 + 104729 * k) []
    refine ⟨a, b, c, ?_⟩
    rw [e0 0, ← e]
    simp [bSt, exs, ex, ev, evs, sumE, mod_int, mul_int (.inl s1), len_l look_lst', hk]
def keptD : List D := [(.str "again"), (.str "alike"), (.str "as"), (.str "at"), (.str "blame"), (.str "box"), (.str "by"), (.str "cover"), (.str "end"), (.str "few"), (.str "free"), (.str "grip"), (.str "hand"), (.str "if"), (.str "kept"), (.str "least"), (.str "link"), (.str "look"), (.str "make"), (.str "move"), (.str "name"), (.str "named"), (.str "none"), (.str "rely"), (.str "room"), (.str "rows"), (.str "run"), (.str "safe"), (.str "sheet"), (.str "sure"), (.str "there"), (.str "to"), (.str "uses"), (.str "worth"), (.str "write")]
def keptS : List Str := [("again" : Str), ("alike" : Str), ("as" : Str), ("at" : Str), ("blame" : Str), ("box" : Str), ("by" : Str), ("cover" : Str), ("end" : Str), ("few" : Str), ("free" : Str), ("grip" : Str), ("hand" : Str), ("if" : Str), ("kept" : Str), ("least" : Str), ("link" : Str), ("look" : Str), ("make" : Str), ("move" : Str), ("name" : Str), ("named" : Str), ("none" : Str), ("rely" : Str), ("room" : Str), ("rows" : Str), ("run" : Str), ("safe" : Str), ("sheet" : Str), ("sure" : Str), ("there" : Str), ("to" : Str), ("uses" : Str), ("worth" : Str), ("write" : Str)]
theorem kept_map : keptD = keptS.map D.str := rfl
def inKept (s : Str) : Bool := keptD.any fun x => eqv x (.str s)
theorem kept_in : ∀ s ∈ keptS, inKept s = true := by
  intro s hs
  unfold inKept
  rw [kept_map, List.any_map, List.any_eq_true]
  exact ⟨s, hs, by simp [eqv]⟩
theorem kept_cmp (s : Str) : (keptD.all fun x => comparable x (.str s)) = true := rfl
theorem in_tup {s : Str} {st : Store} : compop .inn (.str s) (.tup keptD) st = .ok (.bl (inKept s)) st := by
  simp only [compop, member, look_tup', look_str', inseq, Mi.plain, kept_cmp, Bool.and_self, if_true]
  rfl
theorem in_lst {s : Str} {st : Store} : compop .inn (.str s) (.lst keptD) st = .ok (.bl (inKept s)) st := by
  simp only [compop, member, look_lst', look_str', inseq, Mi.plain, kept_cmp, Bool.and_self, if_true]
  rfl
theorem len_s {s : Str} {st : Store} {fz : Bool} (h : s.length ≤ 1000) : prim .len fz [.str s] st = .ok (.int s.length) st := by
  simp only [prim, look_str', if_pos (small_le h (by decide))]
def sep : Str := " "
def allS : Str := ("again alike as at blame box by cover end few free grip hand if kept least link look" : Str) ++ (" make move name named none rely room rows run safe sheet sure there to uses worth" : Str) ++ (" write" : Str)
theorem split_kept : Txt.split allS sep = keptS := by decide +kernel
theorem sep_len : (sep.length == 0) = false := by decide +kernel
theorem all_len : allS.length ≤ 1000 := by decide +kernel
theorem catS {x y : Str} {st : Store} {fz : Bool} (h : x.length + y.length ≤ 10000) : binop .add fz (.str x) (.str y) st = .ok (.str (x ++ y)) st := by
  simp only [binop, look_str', if_pos (small_le h (by decide))]
theorem kept_ok {T : List Fn} {i n : Nat} (h3 : T[i]? = some ⟨"_law_kept", 0, 1, [], bKp⟩) {st : Store} : callN T (n + 1) i [] st = .ok (.lst keptD) st := by
  rw [callN_s h3 rfl]
  show leave st (exs (callN T n) bKp [none] st) = _
  have l1 : ("again alike as at blame box by cover end few free grip hand if kept least link look" : Str).length + (" make move name named none rely room rows run safe sheet sure there to uses worth" : Str).length ≤ 10000 := by decide +kernel
  have l2 : (("again alike as at blame box by cover end few free grip hand if kept least link look" : Str) ++ (" make move name named none rely room rows run safe sheet sure there to uses worth" : Str)).length + (" write" : Str).length ≤ 10000 := by decide +kernel
  have l3 : allS.length + 2 ≤ sizeLine := small_le (b := 2000) (by have := all_len; omega) (by decide)
  have ms : ∀ s : Store, meth .split true (.str allS) [.str sep] s = .ok (.lst keptD) s := fun s => by
    show mSplit true (.str allS) [.str sep] s = _
    simp only [mSplit]
    rw [if_pos ⟨sep_len, l3⟩, split_kept, ← kept_map]
    exact made_ok (small_le (b := 100) (by decide) (by decide))
  unfold bKp
  simp only [exs, ex, ev, evs, List.getElem?_cons_zero, R.bind_ok, R.toF_ok, F.thn_nx, List.set_cons_zero, catS l1, catS l2, recv, isSt, if_true, F.thn_rt]
  have := ms st
  unfold allS sep at this
  rw [this]
  simp only [R.toF_ok, F.thn_rt, leave_rt]
  exact canon_flat0 rfl
theorem frz_lst0 {st : Store} {xs : List D} {k : Nat} : freezeTop k (.ok (.lst xs) st) = .ok (.lst xs) st := rfl
theorem idx_lst {xs : List D} {r : Int} (h0 : 0 ≤ r) (h1 : r < xs.length) : ∃ d, xs[r.toNat]? = some d ∧ ∀ st : Store, index (.lst xs) (.int r) st = .ok d st := by
  have hk : r.toNat < xs.length := by omega
  refine ⟨xs[r.toNat], List.getElem?_eq_getElem hk, fun st => index_l look_lst' ?_⟩
  rw [nth_nat (k := r.toNat) hk (by omega)]
  exact List.getElem?_eq_getElem hk
theorem idx_str {s : Str} {r : Int} (h0 : 0 ≤ r) (h1 : r < s.length) (hs : s.length ≤ 1000) : ∃ ch, ∀ st : Store, index (.str s) (.int r) st = .ok (.str ⟨#[ch]⟩) st := by
  have hl : s.cps.toList.length = s.length := by simp [Str.length]
  have hk : r.toNat < s.cps.toList.length := by omega
  refine ⟨s.cps.toList[r.toNat], fun st => ?_⟩
  have e : (ixN s.cps.toList.length r).bind (s.cps.toList[·]?) = some s.cps.toList[r.toNat] := by
    have h2 : r < (s.cps.toList.length : Int) := by omega
    simp only [ixN, h0, h2, if_true, Option.bind_some]
    exact List.getElem?_eq_getElem hk
  simp only [index, look_str', if_pos (small_le hs (by decide : 1000 ≤ 16000000)), e]
theorem letters_len : ("abcdefghijklmnopqrstuvwxyz" : Str).length = 26 := by decide +kernel
theorem sum_ones : ∀ {zs : List Str}, (∀ z ∈ zs, z.length = 1) → (zs.map (·.length)).sum = zs.length
  | [], _ => rfl
  | z :: zs, h => by
    rw [List.map_cons, List.sum_cons, h z (.head _), sum_ones fun y hy => h y (.tail _ hy), List.length_cons]; omega
theorem strs_of : ∀ {ys : List D}, (∀ y ∈ ys, ∃ ch, y = .str ⟨#[ch]⟩) → ∃ zs : List Str, ys = zs.map D.str ∧ ∀ z ∈ zs, z.length = 1
  | [], _ => ⟨[], rfl, fun z hz => by cases hz⟩
  | y :: ys, h => by
    obtain ⟨ch, rfl⟩ := h y (.head _)
    obtain ⟨zs, rfl, hz⟩ := strs_of fun y hy => h y (.tail _ hy)
    refine ⟨⟨#[ch]⟩ :: zs, rfl, fun z hz' => ?_⟩
    cases hz' with
    | head => rfl
    | tail _ q => exact hz z q
theorem join_ok {zs : List Str} (h : ∀ z ∈ zs, z.length = 1) (hl : zs.length ≤ 100) {st : Store} : meth .join true (.str "") [.lst (zs.map D.str)] st = .ok (.str (Txt.join ⟨#[]⟩ zs)) st ∧ (Txt.join ⟨#[]⟩ zs).length = zs.length := by
  have e0 : ("" : Str) = ⟨#[]⟩ := by decide +kernel
  have e1 := sum_ones h
  refine ⟨?_, by rw [slen_join, e1]⟩
  show mJoin (.str "") [.lst (zs.map D.str)] st = _
  rw [e0]
  simp only [mJoin, items, look_lst', strsD_map]
  rw [if_pos]
  rw [e1]
  show zs.length + zs.length * 0 ≤ 16777216
  omega
theorem cut_le {α : Type} (xs : List α) (lo hi : Option Int) : (Mi.cut xs lo hi).length ≤ xs.length := by
  unfold Mi.cut
  rw [List.length_take, List.length_drop]; omega
def cutS (s : Str) (lo hi : Option Int) : Str := ⟨(Mi.cut s.cps.toList lo hi).toArray⟩
theorem cutS_len (s : Str) (lo hi : Option Int) : (cutS s lo hi).length ≤ s.length := by
  have := cut_le s.cps.toList lo hi
  simpa [cutS, Str.length] using this
theorem slice_s {s : Str} (h : s.length ≤ 1000) (lo hi : Option Int) {st : Store} {fz : Bool} : slice fz (.str s) lo hi st = .ok (.str (cutS s lo hi)) st := by
  simp only [slice, look_str', if_pos (small_le h (by decide : 1000 ≤ 16000000))]; rfl
def revS (s : Str) : Str := ⟨s.cps.toList.reverse.toArray⟩
theorem revS_len (s : Str) : (revS s).length = s.length := by simp [revS, Str.length]
theorem back_s {s : Str} (h : s.length ≤ 1000) {st : Store} {fz : Bool} : backward fz (.str s) st = .ok (.str (revS s)) st := by
  simp only [backward, look_str', if_pos (small_le h (by decide : 1000 ≤ 16000000))]; rfl
end Dr
/-! DrB: the laws' words. -/
namespace Dr
open PySem Mi
def lett : Str := "abcdefghijklmnopqrstuvwxyz"
def wA : E := .comp true [9] [9] true (.iRng [(.var 1)]) [] (.bin .mul true (.idx (.var 2) (.var 3)) (.bin .add true (.cst (.int 1)) (.var 9)))
def wB : E := .comp true [9] [9] true (.iRng [(.var 4)]) [] (.idx (.var 2) (.bin .mod true (.bin .add true (.var 3) (.bin .mul true (.cst (.int 7)) (.var 9))) (.cst (.int 26))))
def wC : E := .comp true [9] [9] true (.iRng [(.var 1)]) [] (.idx (.var 2) (.bin .mod true (.bin .add true (.bin .add true (.var 3) (.cst (.int 5))) (.bin .mul true (.cst (.int 3)) (.var 9))) (.cst (.int 26))))
def wD : E := .comp true [10] [10] true (.iSeq (.var 7)) [] (.bin .add true (.bin .add true (.slc true (.var 6) [] [(.var 5)]) (.var 10)) (.slc true (.var 6) [(.bin .add true (.var 5) (.cst (.int 1)))] []))
def wE (kp : Nat) : E := .comp true [11] [11] true (.iSeq (.var 8)) [] (.bin .add true (.var 11) (.bin .mul true (.cst (.str "z")) (.prm .int true [(.cmp .inn (.var 11) (.call true kp [] []))])))
def bWd (nx kp : Nat) : List S := [.asg 2 (.cst (.str "abcdefghijklmnopqrstuvwxyz")), .asg 3 (.call true nx [(.var 0), (.cst (.int 26))] []), .iff (.and (.cmp .eq (.call true nx [(.var 0), (.cst (.int 4))] []) (.cst (.int 0))) (.cmp .lt (.var 1) (.cst (.int 7)))) [.ret (.comp true [9] [9] true (.iRng [(.var 1)]) [] (.bin .mul true (.idx (.var 2) (.var 3)) (.bin .add true (.cst (.int 1)) (.var 9))))] [], .asg 4 (.bin .add true (.cst (.int 1)) (.call true nx [(.var 0), (.cst (.int 6))] [])), .asg 5 (.call true nx [(.var 0), (.var 4)] []), .asg 6 (.mth .join true (.cst (.str "")) [(.comp true [9] [9] true (.iRng [(.var 4)]) [] (.idx (.var 2) (.bin .mod true (.bin .add true (.var 3) (.bin .mul true (.cst (.int 7)) (.var 9))) (.cst (.int 26)))))]), .asg 7 (.comp true [9] [9] true (.iRng [(.var 1)]) [] (.idx (.var 2) (.bin .mod true (.bin .add true (.bin .add true (.var 3) (.cst (.int 5))) (.bin .mul true (.cst (.int 3)) (.var 9))) (.cst (.int 26))))), .asg 8 (.comp true [10] [10] true (.iSeq (.var 7)) [] (.bin .add true (.bin .add true (.slc true (.var 6) [] [(.var 5)]) (.var 10)) (.slc true (.var 6) [(.bin .add true (.var 5) (.cst (.int 1)))] []))), .ret (.comp true [11] [11] true (.iSeq (.var 8)) [] (.bin .add true (.var 11) (.bin .mul true (.cst (.str "z")) (.prm .int true [(.cmp .inn (.var 11) (.call true kp [] []))]))))]
theorem bWd_eq (nx kp : Nat) : bWd nx kp = [.asg 2 (.cst (.str lett)), .asg 3 (.call true nx [(.var 0), (.cst (.int 26))] []), .iff (.and (.cmp .eq (.call true nx [(.var 0), (.cst (.int 4))] []) (.cst (.int 0))) (.cmp .lt (.var 1) (.cst (.int 7)))) [.ret wA] [], .asg 4 (.bin .add true (.cst (.int 1)) (.call true nx [(.var 0), (.cst (.int 6))] [])), .asg 5 (.call true nx [(.var 0), (.var 4)] []), .asg 6 (.mth .join true (.cst (.str "")) [wB]), .asg 7 wC, .asg 8 wD, .ret (wE kp)] := rfl
/-- texts of at most n signs -/
def Few (n : Nat) (d : D) : Prop := ∃ s : Str, d = .str s ∧ s.length ≤ n
theorem few_map : ∀ {ys : List D} {n : Nat}, (∀ y ∈ ys, Few n y) → ∃ zs : List Str, ys = zs.map D.str ∧ ∀ z ∈ zs, z.length ≤ n
  | [], _, _ => ⟨[], rfl, fun z hz => by cases hz⟩
  | y :: ys, n, h => by
    obtain ⟨s, rfl, hs⟩ := h y (.head _)
    obtain ⟨zs, rfl, hz⟩ := few_map fun y hy => h y (.tail _ hy)
    refine ⟨s :: zs, rfl, fun z hz' => ?_⟩
    cases hz' with
    | head => exact hs
    | tail _ q => exact hz z q
/-- a comprehension over a range, its store at rest -/
theorem rng_comp {cf : Nat → List D → Store → Mi.R D} {own tg : List Nat} {es : List E} {elt : E} {ρ : Mi.Env} {st : Store} {r : Int} {P : D → Prop} (h : evs cf es ρ st = .ok [.int r] st) (h0 : 0 ≤ r) (h1 : r ≤ 1000)
    (hx : ∀ k : Nat, (k : Int) < r → ∃ d, cstep cf own tg true [] elt ρ (.int (0 + (k : Int))) st = .ok (some d) st ∧ P d) :
    ∃ ys, ev cf (.comp true own tg true (.iRng es) [] elt) ρ st = .ok (.lst ys) st ∧ ys.length = r.toNat ∧ ∀ y ∈ ys, P y := by
  obtain ⟨ys, s', e1, e2, e3, e4⟩ := loopC_all (ck := fun s => stands s ((List.range r.toNat).map (fun (k : Nat) => D.int (0 + (k : Int)))) none) (f := cstep cf own tg true [] elt ρ) (fun _ s => s = st) (fun _ d => P d)
    (xs := (List.range r.toNat).map (fun (k : Nat) => D.int (0 + (k : Int)))) (k := 0) (s := st) (fun _ _ _ => trivial) (fun j x hj s hs => by
      subst hs
      rw [List.getElem?_map] at hj
      obtain ⟨k, hk, rfl⟩ := Option.map_eq_some_iff.mp hj
      have hk := List.mem_range.mp (List.mem_of_getElem? hk)
      obtain ⟨d, e, p⟩ := hx k (by omega)
      exact ⟨d, s, e, rfl, p⟩) rfl
  subst e2
  have hl : ys.length = r.toNat := by simpa using e3
  refine ⟨ys, ?_, hl, fun y hy => ?_⟩
  · rw [ev_comp, iRng_ev h (rangeD1 (inRI h0 (by omega)))]
    simp only [R.bind_ok]
    rw [e1]
    simp only [R.bind_ok]
    exact made_ok (small_le (b := 1000) (by omega) (by decide))
  · obtain ⟨j, hj⟩ := List.getElem?_of_mem hy
    exact e4 j y hj
/-- a comprehension over a list, its store at rest -/
theorem seq_comp {cf : Nat → List D → Store → Mi.R D} {own tg : List Nat} {it elt : E} {ρ : Mi.Env} {st : Store} {xs : List D} {P : D → Prop} (h : ev cf it ρ st = .ok (.lst xs) st) (hl : xs.length ≤ 1000)
    (hx : ∀ x ∈ xs, ∃ d, cstep cf own tg true [] elt ρ x st = .ok (some d) st ∧ P d) :
    ∃ ys, ev cf (.comp true own tg true (.iSeq it) [] elt) ρ st = .ok (.lst ys) st ∧ ys.length = xs.length ∧ ∀ y ∈ ys, P y := by
  obtain ⟨ys, s', e1, e2, e3, e4⟩ := loopC_all (ck := fun s => stands s xs none) (f := cstep cf own tg true [] elt ρ) (fun _ s => s = st) (fun _ d => P d)
    (xs := xs) (k := 0) (s := st) (fun _ _ _ => trivial) (fun j x hj s hs => by
      subst hs
      obtain ⟨d, e, p⟩ := hx x (List.mem_of_getElem? hj)
      exact ⟨d, s, e, rfl, p⟩) rfl
  subst e2
  refine ⟨ys, ?_, e3, fun y hy => ?_⟩
  · have ei : evI cf (.iSeq it) ρ s' = .ok (xs, none) s' := by
      simp only [evI, h, R.bind_ok, walks]
    rw [ev_comp, ei]
    simp only [R.bind_ok]
    rw [e1]
    simp only [R.bind_ok]
    exact made_ok (small_le (b := 1000) (by omega) (by decide))
  · obtain ⟨j, hj⟩ := List.getElem?_of_mem hy
    exact e4 j y hj
theorem srep_len (x : Str) (k : Int) : (srep x k).length = x.length * k.toNat := by simp [srep, Str.length, Nat.mul_comm]
theorem mul_s {x : Str} {k : Int} {st : Store} {fz : Bool} (h : x.length ≤ 1000) (h0 : 0 ≤ k) (h1 : k ≤ 1000) : binop .mul fz (.str x) (.int k) st = .ok (.str (srep x k)) st := by
  simp only [binop, look_str', if_pos (show x.length ≤ 1000 ∧ 0 ≤ k ∧ k ≤ 1000 from ⟨h, h0, h1⟩)]
theorem sml7 : small64 7 = true ∧ small64 3 = true := by decide
theorem lett26 : lett.length = 26 := letters_len
theorem mod26 (x : Int) : 0 ≤ x.fmod 26 ∧ x.fmod 26 < 26 := ⟨Int.fmod_nonneg_of_pos _ (by decide), Int.fmod_lt_of_pos _ (by decide)⟩
theorem lett_at {r : Int} (h0 : 0 ≤ r) (h1 : r < 26) : ∃ ch, ∀ st : Store, index (.str lett) (.int r) st = .ok (.str ⟨#[ch]⟩) st := idx_str h0 (by rw [lett26]; exact h1) (by rw [lett26]; decide)
section
variable {T : List Fn} {nx kp wd n : Nat} {st : Store} {l : Nat} {a c : Int}
theorem words_ok (h2 : T[nx]? = some ⟨"_law_next", 2, 4, [], bNx⟩) (h3 : T[kp]? = some ⟨"_law_kept", 0, 1, [], bKp⟩) (h5 : T[wd]? = some ⟨"_law_words", 2, 12, [], bWd nx kp⟩) (hl : l < st.length) {b sz : Int} (s0 : 0 ≤ sz) (s1 : sz ≤ 100) :
    ∃ (ws : List Str) (b' : Int), callN T (n + 2) wd [.loc l, .int sz] (stb st l a c b) = .ok (.lst (ws.map D.str)) (stb st l a c b') ∧ ws.length = sz.toNat ∧ ∀ z ∈ ws, z.length ≤ 20 := by
  rw [callN_s h5 rfl]
  obtain ⟨r1, b1, p1, q1, e1⟩ := next_ok (n := n) (b := b) (a := a) (c := c) h2 hl (sz := 26) (by decide) (by decide)
  obtain ⟨r2, b2, p2, q2, e2⟩ := next_ok (n := n) (b := b1) (a := a) (c := c) h2 hl (sz := 4) (by decide) (by decide)
  obtain ⟨ch, hch⟩ := lett_at p1 q1
  show ∃ (ws : List Str) (b' : Int), leave (stb st l a c b) (exs (callN T (n + 1)) (bWd nx kp) [some (.loc l), some (.int sz), none, none, none, none, none, none, none, none, none, none] (stb st l a c b)) = _ ∧ _
  rw [bWd_eq]
  by_cases hA : r2 = 0 ∧ sz < 7
  · obtain ⟨rfl, h7⟩ := hA
    obtain ⟨ys, f1, f2, f3⟩ := rng_comp (cf := callN T (n + 1)) (own := [9]) (tg := [9]) (es := [(.var 1)]) (elt := .bin .mul true (.idx (.var 2) (.var 3)) (.bin .add true (.cst (.int 1)) (.var 9))) (ρ := [some (.loc l), some (.int sz), some (.str lett), some (.int r1), none, none, none, none, none, none, none, none]) (st := stb st l a c b2) (r := sz) (P := Few 20)
      (by simp only [evs, ev, List.getElem?_cons_zero, List.getElem?_cons_succ, R.bind_ok]) s0 (by omega) fun k hk => by
        refine ⟨.str (srep ⟨#[ch]⟩ (1 + (0 + (k : Int)))), ?_, _, rfl, ?_⟩
        · unfold cstep
          simp only [bindT, if_true, put, Mi.wipe, List.set_cons_zero, List.set_cons_succ]
          simp only [evc, ev, List.getElem?_cons_zero, List.getElem?_cons_succ, R.bind_ok, R.calm_ok, if_true, hch, add_int]
          rw [mul_s (by show 1 ≤ 1000; decide) (by omega) (by omega)]
          simp only [R.calm_ok, R.bind_ok]
        · rw [srep_len]
          show 1 * _ ≤ 20
          omega
    obtain ⟨zs, rfl, hz⟩ := few_map f3
    refine ⟨zs, b2, ?_, by simpa using f2, hz⟩
    have e0 : ((0 : Int) == 0) = true := rfl
    have d7 : decide (sz < 7) = true := decide_eq_true h7
    have f1 : ev (callN T (n + 1)) wA [some (.loc l), some (.int sz), some (.str lett), some (.int r1), none, none, none, none, none, none, none, none] (stb st l a c b2) = .ok (.lst (zs.map D.str)) (stb st l a c b2) := f1
    rw [← stb_canon (b := b) (by show flats _ = true; exact mem_flats fun x hx => by obtain ⟨z, _, rfl⟩ := List.mem_map.mp hx; rfl), ← leave_rt]
    simp only [exs, ex, ev, evs, List.getElem?_cons_zero, List.getElem?_cons_succ, R.bind_ok, R.toF_ok, F.thn_nx, List.append_nil, if_true, e1, e2, freeze_int, eq_int, e0, truth_bl, lt_int, d7, asBool_ok, List.set_cons_zero, List.set_cons_succ, f1, F.thn_rt]
  · obtain ⟨r3, b3, p3, q3, e3⟩ := next_ok (n := n) (b := b2) (a := a) (c := c) h2 hl (sz := 6) (by decide) (by decide)
    obtain ⟨r4, b4, p4, q4, e4⟩ := next_ok (n := n) (b := b3) (a := a) (c := c) h2 hl (sz := 1 + r3) (by omega) (by omega)
    have cond : ∀ s : Store, ev (callN T (n + 1)) (.cmp .lt (.var 1) (.cst (.int 7))) [some (.loc l), some (.int sz), some (.str lett), some (.int r1), none, none, none, none, none, none, none, none] s = .ok (.bl (decide (sz < 7))) s := fun s => by
      simp only [ev, List.getElem?_cons_zero, List.getElem?_cons_succ, R.bind_ok, lt_int]
    -- the base
    obtain ⟨ys, f1, f2, f3⟩ := rng_comp (cf := callN T (n + 1)) (own := [9]) (tg := [9]) (es := [(.var 4)]) (elt := .idx (.var 2) (.bin .mod true (.bin .add true (.var 3) (.bin .mul true (.cst (.int 7)) (.var 9))) (.cst (.int 26)))) (ρ := [some (.loc l), some (.int sz), some (.str lett), some (.int r1), some (.int (1 + r3)), some (.int r4), none, none, none, none, none, none]) (st := stb st l a c b4) (r := 1 + r3) (P := fun d => ∃ ch, d = .str ⟨#[ch]⟩)
      (by simp only [evs, ev, List.getElem?_cons_zero, List.getElem?_cons_succ, R.bind_ok]) (by omega) (by omega) fun k hk => by
        obtain ⟨m0, m1⟩ := mod26 (r1 + 7 * (0 + (k : Int)))
        obtain ⟨c2, hc2⟩ := lett_at m0 m1
        refine ⟨.str ⟨#[c2]⟩, ?_, c2, rfl⟩
        unfold cstep
        simp only [bindT, if_true, put, Mi.wipe, List.set_cons_zero, List.set_cons_succ]
        simp only [evc, ev, List.getElem?_cons_zero, List.getElem?_cons_succ, R.bind_ok, R.calm_ok, if_true, mul_int (.inl sml7.1), add_int, mod_int (show (26 : Int) ≠ 0 by decide), hc2]
    obtain ⟨base, rfl, hb⟩ := strs_of f3
    have hbl : base.length ≤ 6 := by
      have : base.length = (1 + r3).toNat := by simpa using f2
      omega
    obtain ⟨j1, j2⟩ := join_ok hb (by omega) (st := stb st l a c b4)
    -- the signs
    obtain ⟨ys, g1, g2, g3⟩ := rng_comp (cf := callN T (n + 1)) (own := [9]) (tg := [9]) (es := [(.var 1)]) (elt := .idx (.var 2) (.bin .mod true (.bin .add true (.bin .add true (.var 3) (.cst (.int 5))) (.bin .mul true (.cst (.int 3)) (.var 9))) (.cst (.int 26)))) (ρ := [some (.loc l), some (.int sz), some (.str lett), some (.int r1), some (.int (1 + r3)), some (.int r4), some (.str (Txt.join ⟨#[]⟩ base)), none, none, none, none, none]) (st := stb st l a c b4) (r := sz) (P := Few 1)
      (by simp only [evs, ev, List.getElem?_cons_zero, List.getElem?_cons_succ, R.bind_ok]) s0 (by omega) fun k hk => by
        obtain ⟨m0, m1⟩ := mod26 (r1 + 5 + 3 * (0 + (k : Int)))
        obtain ⟨c2, hc2⟩ := lett_at m0 m1
        refine ⟨.str ⟨#[c2]⟩, ?_, _, rfl, Nat.le_refl _⟩
        unfold cstep
        simp only [bindT, if_true, put, Mi.wipe, List.set_cons_zero, List.set_cons_succ]
        simp only [evc, ev, List.getElem?_cons_zero, List.getElem?_cons_succ, R.bind_ok, R.calm_ok, if_true, mul_int (.inl sml7.2), add_int, mod_int (show (26 : Int) ≠ 0 by decide), hc2]
    obtain ⟨sg, rfl, hsg⟩ := few_map g3
    have sgl : sg.length = sz.toNat := by simpa using g2
    -- the words
    obtain ⟨ys, i1, i2, i3⟩ := seq_comp (cf := callN T (n + 1)) (own := [10]) (tg := [10]) (it := .var 7) (elt := .bin .add true (.bin .add true (.slc true (.var 6) [] [(.var 5)]) (.var 10)) (.slc true (.var 6) [(.bin .add true (.var 5) (.cst (.int 1)))] [])) (ρ := [some (.loc l), some (.int sz), some (.str lett), some (.int r1), some (.int (1 + r3)), some (.int r4), some (.str (Txt.join ⟨#[]⟩ base)), some (.lst (sg.map D.str)), none, none, none, none]) (st := stb st l a c b4) (xs := sg.map D.str) (P := Few 13)
      (by simp only [ev, List.getElem?_cons_zero, List.getElem?_cons_succ]) (by simp; omega) fun x hx => by
        obtain ⟨z, hz, rfl⟩ := List.mem_map.mp hx
        have hz := hsg z hz
        have c1 := cutS_len (Txt.join ⟨#[]⟩ base) none (some r4)
        have c2 := cutS_len (Txt.join ⟨#[]⟩ base) (some (r4 + 1)) none
        refine ⟨.str (cutS (Txt.join ⟨#[]⟩ base) none (some r4) ++ z ++ cutS (Txt.join ⟨#[]⟩ base) (some (r4 + 1)) none), ?_, _, rfl, ?_⟩
        · have k1 : ∀ s : Store, binop .add true (.str (cutS (Txt.join ⟨#[]⟩ base) none (some r4))) (.str z) s = .ok (.str (cutS (Txt.join ⟨#[]⟩ base) none (some r4) ++ z)) s := fun s => catS (by omega)
          have k2 : ∀ s : Store, binop .add true (.str (cutS (Txt.join ⟨#[]⟩ base) none (some r4) ++ z)) (.str (cutS (Txt.join ⟨#[]⟩ base) (some (r4 + 1)) none)) s = .ok (.str (cutS (Txt.join ⟨#[]⟩ base) none (some r4) ++ z ++ cutS (Txt.join ⟨#[]⟩ base) (some (r4 + 1)) none)) s := fun s => catS (by rw [slen_app]; omega)
          unfold cstep
          simp only [bindT, if_true, put, Mi.wipe, List.set_cons_zero, List.set_cons_succ]
          simp only [evc, ev, evs, List.getElem?_cons_zero, List.getElem?_cons_succ, R.bind_ok, R.calm_ok, if_true, oneIntR, oneInt, add_int, slice_s (show (Txt.join ⟨#[]⟩ base).length ≤ 1000 by omega), k1, k2]
        · rw [slen_app, slen_app]
          omega
    obtain ⟨wd, rfl, hwd⟩ := few_map i3
    have wdl : wd.length = sz.toNat := by
      have : wd.length = sg.length := by simpa using i2
      omega
    -- none of them kept
    obtain ⟨ys, k1, k2, k3⟩ := seq_comp (cf := callN T (n + 1)) (own := [11]) (tg := [11]) (it := .var 8) (elt := .bin .add true (.var 11) (.bin .mul true (.cst (.str "z")) (.prm .int true [(.cmp .inn (.var 11) (.call true kp [] []))]))) (ρ := [some (.loc l), some (.int sz), some (.str lett), some (.int r1), some (.int (1 + r3)), some (.int r4), some (.str (Txt.join ⟨#[]⟩ base)), some (.lst (sg.map D.str)), some (.lst (wd.map D.str)), none, none, none]) (st := stb st l a c b4) (xs := wd.map D.str) (P := Few 20)
      (by simp only [ev, List.getElem?_cons_zero, List.getElem?_cons_succ]) (by simp; omega) fun x hx => by
        obtain ⟨z, hz, rfl⟩ := List.mem_map.mp hx
        have hz := hwd z hz
        have lz : ("z" : Str).length = 1 := by decide +kernel
        have b0 : 0 ≤ b2i (inKept z) ∧ b2i (inKept z) ≤ 1 := by unfold b2i; split <;> omega
        refine ⟨.str (z ++ srep "z" (b2i (inKept z))), ?_, _, rfl, ?_⟩
        · have m1 : ∀ s : Store, binop .mul true (.str "z") (.int (b2i (inKept z))) s = .ok (.str (srep "z" (b2i (inKept z)))) s := fun s => mul_s (by rw [lz]; decide) b0.1 (by omega)
          have m2 : ∀ s : Store, binop .add true (.str z) (.str (srep "z" (b2i (inKept z)))) s = .ok (.str (z ++ srep "z" (b2i (inKept z)))) s := fun s => catS (by rw [srep_len, lz]; omega)
          unfold cstep
          simp only [bindT, if_true, put, Mi.wipe, List.set_cons_zero, List.set_cons_succ]
          simp only [evc, ev, evs, List.getElem?_cons_zero, List.getElem?_cons_succ, R.bind_ok, R.calm_ok, if_true, List.append_nil, kept_ok h3, frz_lst0, in_lst, bool_asInt, m1, m2]
        · rw [slen_app, srep_len, lz]
          omega
    obtain ⟨zs, rfl, hz⟩ := few_map k3
    refine ⟨zs, b4, ?_, by have : zs.length = wd.length := by simpa using k2
                           omega, hz⟩
    rw [← stb_canon (b := b) (by show flats _ = true; exact mem_flats fun x hx => by obtain ⟨z, _, rfl⟩ := List.mem_map.mp hx; rfl), ← leave_rt]
    have f1 : ev (callN T (n + 1)) wB _ _ = _ := f1
    have g1 : ev (callN T (n + 1)) wC _ _ = _ := g1
    have i1 : ev (callN T (n + 1)) wD _ _ = _ := i1
    have k1 : ev (callN T (n + 1)) (wE kp) _ _ = _ := k1
    have hc : (r2 == 0) = false ∨ ((r2 == 0) = true ∧ decide (sz < 7) = false) := by
      cases h : (r2 == 0)
      · exact .inl rfl
      · exact .inr ⟨rfl, decide_eq_false fun z => hA ⟨by simpa using h, z⟩⟩
    rcases hc with h | ⟨h, d7⟩
    · simp only [exs, ex, ev, evs, List.getElem?_cons_zero, List.getElem?_cons_succ, R.bind_ok, R.toF_ok, F.thn_nx, List.append_nil, if_true, e1, e2, freeze_int, eq_int, lt_int, List.set_cons_zero, List.set_cons_succ, truth_bl, asBool_ok, Bool.false_eq_true, if_false, e3, add_int, e4, recv, isSt, f1, j1, g1, i1, k1, F.thn_rt, h]
    · simp only [exs, ex, ev, evs, List.getElem?_cons_zero, List.getElem?_cons_succ, R.bind_ok, R.toF_ok, F.thn_nx, List.append_nil, if_true, e1, e2, freeze_int, eq_int, lt_int, List.set_cons_zero, List.set_cons_succ, truth_bl, asBool_ok, Bool.false_eq_true, if_false, e3, add_int, e4, recv, isSt, f1, j1, g1, i1, k1, F.thn_rt, h, d7]
end
end Dr
/-! DrC: is_word as the program has it. -/
namespace Dr
open PySem Mi
def bW : List S := [.iff (.or (.not (.isa (.var 0) [.str])) (.or (.cmp .inn (.var 0) (.glo "KEPT" (.tup [(.str "again"), (.str "alike"), (.str "as"), (.str "at"), (.str "blame"), (.str "box"), (.str "by"), (.str "cover"), (.str "end"), (.str "few"), (.str "free"), (.str "grip"), (.str "hand"), (.str "if"), (.str "kept"), (.str "least"), (.str "link"), (.str "look"), (.str "make"), (.str "move"), (.str "name"), (.str "named"), (.str "none"), (.str "rely"), (.str "room"), (.str "rows"), (.str "run"), (.str "safe"), (.str "sheet"), (.str "sure"), (.str "there"), (.str "to"), (.str "uses"), (.str "worth"), (.str "write")]))) (.not (.chn .le .le (.cst (.int 1)) (.prm .len true [(.var 0)]) (.glo "LONGEST" (.int 6)))))) [.ret (.cst (.bl false))] [], .forr [1] true (.iSeq (.var 0)) [.iff (.cmp .nin (.var 1) (.glo "LETTERS" (.str "abcdefghijklmnopqrstuvwxyz"))) [.ret (.cst (.bl false))] []], .ret (.cst (.bl true))]
theorem len_sL {s : Str} {st : Store} {fz : Bool} (h : s.length ≤ 10000) : prim .len fz [.str s] st = .ok (.int s.length) st := by
  simp only [prim, look_str', if_pos (small_le h (by decide))]
def okC (d : D) : Bool := match d with | .str c => subIn c "abcdefghijklmnopqrstuvwxyz" | _ => false
theorem nin_s {c : Str} {st : Store} : compop .nin (.str c) (.str "abcdefghijklmnopqrstuvwxyz") st = .ok (.bl (!okC (.str c))) st := rfl
def wordB (s : Str) : Bool := !inKept s && (decide (1 ≤ (s.length : Int)) && decide ((s.length : Int) ≤ 6)) && (chars s).all okC
def wb : List S := [.iff (.cmp .nin (.var 1) (.glo "LETTERS" (.str "abcdefghijklmnopqrstuvwxyz"))) [.ret (.cst (.bl false))] []]
theorem turnW {cf : Nat → List D → Store → Mi.R D} {st : Store} {v : Option D} {s : Str} {x : D} (hx : x ∈ chars s) : if okC x then ∃ ρ', fstep cf [1] true wb x [some (.str s), v] st = .nx ρ' st ∧ (∃ v, ρ' = [some (.str s), v]) else fstep cf [1] true wb x [some (.str s), v] st = .rt (.bl false) st := by
  obtain ⟨c, rfl⟩ := chars_str x hx
  unfold fstep
  simp only [bindT, if_true, put, List.set_cons_zero, List.set_cons_succ]
  unfold wb
  simp only [exs, ex, ev, List.getElem?_cons_zero, List.getElem?_cons_succ, R.bind_ok, nin_s]
  cases okC (.str ⟨#[c]⟩) <;> simp
def lenC : E := .chn .le .le (.cst (.int 1)) (.prm .len true [(.var 0)]) (.glo "LONGEST" (.int 6))
def keptG : E := .glo "KEPT" (.tup keptD)
def wcond : E := .or (.not (.isa (.var 0) [.str])) (.or (.cmp .inn (.var 0) keptG) (.not lenC))
theorem bW_eq : bW = [.iff wcond [.ret (.cst (.bl false))] [], .forr [1] true (.iSeq (.var 0)) wb, .ret (.cst (.bl true))] := rfl
theorem kept_ev {cf : Nat → List D → Store → Mi.R D} {st : Store} {ρ : Mi.Env} : ev cf keptG ρ st = .ok (.tup keptD) st := by unfold keptG; simp only [ev]
theorem len_chain {cf : Nat → List D → Store → Mi.R D} {st : Store} {ρ : Mi.Env} {s : Str} (h : ρ[0]? = some (some (.str s))) (hs : s.length ≤ 10000) : ev cf lenC ρ st = .ok (.bl (decide (1 ≤ (s.length : Int)) && decide ((s.length : Int) ≤ 6))) st := by
  unfold lenC
  simp only [ev, evs, h, R.bind_ok, len_sL hs, le_int]
  have e1 : decide (1 ≤ (s.length : Int)) = !decide ((s.length : Int) < 1) := by
    rw [← decide_not]; exact decide_eq_decide.mpr (by omega)
  have e2 : decide ((s.length : Int) ≤ 6) = !decide (6 < (s.length : Int)) := by
    rw [← decide_not]; exact decide_eq_decide.mpr (by omega)
  rw [e1, e2]
  cases decide ((s.length : Int) < 1) <;> simp
theorem isw_ok {T : List Fn} {i n : Nat} (h0 : T[i]? = some ⟨"is_word", 1, 2, [], bW⟩) {st : Store} {s : Str} (hs : s.length ≤ 10000) : callN T (n + 1) i [.str s] st = .ok (.bl (wordB s)) st := by
  rw [callN_s h0 rfl]
  show leave st (exs (callN T n) bW [some (.str s), none] st) = _
  have ec : asBool (ev (callN T n) wcond [some (.str s), none] st) = .ok (inKept s || !(decide (1 ≤ (s.length : Int)) && decide ((s.length : Int) ≤ 6))) st := by
    have hc := len_chain (cf := callN T n) (st := st) (ρ := [some (.str s), none]) rfl hs
    unfold wcond
    simp only [ev, List.getElem?_cons_zero, R.bind_ok, isTy, List.any_cons, List.any_nil, Bool.or_false, asBool_ok, Bool.not_true, truth_bl, kept_ev, in_tup, hc]
    cases inKept s <;> simp
  rw [bW_eq, exs_cons, ex, ec, R.toF_ok]
  unfold wordB
  cases hk : inKept s || !(decide (1 ≤ (s.length : Int)) && decide ((s.length : Int) ≤ 6)) with
  | true =>
    have : (!inKept s && (decide (1 ≤ (s.length : Int)) && decide ((s.length : Int) ≤ 6))) = false := by
      revert hk
      cases inKept s <;> cases decide (1 ≤ (s.length : Int)) && decide ((s.length : Int) ≤ 6) <;> simp
    rw [this]
    simp only [if_true, exs, ex, ev, R.toF_ok, F.thn_rt, leave_rt, Bool.false_and]
    exact canon_bl keeps_refl |>.trans (by rw [List.take_length])
  | false =>
    have : (!inKept s && (decide (1 ≤ (s.length : Int)) && decide ((s.length : Int) ≤ 6))) = true := by
      revert hk
      cases inKept s <;> cases decide (1 ≤ (s.length : Int)) && decide ((s.length : Int) ≤ 6) <;> simp
    rw [this]
    have ei : evI (callN T n) (.iSeq (.var 0)) [some (.str s), none] st = .ok (chars s, none) st := by
      simp only [evI, ev, List.getElem?_cons_zero, R.bind_ok, walks]
    have lp := loopF_all (ck := fun st' => stands st' (chars s) none) (f := fstep (callN T n) [1] true wb) (st := st) trivial okC (.bl false) (fun ρ => ∃ v, ρ = [some (.str s), v]) (xs := chars s) (ρ := [some (.str s), none]) (fun x hx ρ hρ => by
      obtain ⟨v, rfl⟩ := hρ
      exact turnW hx) ⟨none, rfl⟩
    simp only [Bool.false_eq_true, if_false, exs, F.thn_nx, Bool.true_and]
    rw [ex_for, ei, R.toF_ok]
    rcases lp with ⟨e1, ρ', e2, v, rfl⟩ | ⟨e1, e2⟩
    · rw [e2, e1]
      simp only [F.thn_nx, ex, ev, R.toF_ok, F.thn_rt, leave_rt]
      exact canon_bl keeps_refl |>.trans (by rw [List.take_length])
    · rw [e2, e1]
      simp only [F.thn_rt, leave_rt]
      exact canon_bl keeps_refl |>.trans (by rw [List.take_length])
theorem isw_no {T : List Fn} {i n : Nat} (h0 : T[i]? = some ⟨"is_word", 1, 2, [], bW⟩) {st : Store} {d : D} (hd : isTy st d .str = false) : callN T (n + 1) i [d] st = .ok (.bl false) st := by
  rw [callN_s h0 rfl]
  show leave st (exs (callN T n) bW [some d, none] st) = _
  have ec : asBool (ev (callN T n) wcond [some d, none] st) = .ok true st := by
    unfold wcond
    simp only [ev, List.getElem?_cons_zero, R.bind_ok, hd, List.any_cons, List.any_nil, Bool.or_false, asBool_ok, Bool.not_false, truth_bl]
  rw [bW_eq, exs_cons, ex, ec, R.toF_ok]
  simp only [if_true, exs, ex, ev, R.toF_ok, F.thn_rt, leave_rt]
  exact canon_bl keeps_refl |>.trans (by rw [List.take_length])
def keepC (x : D) : Option D := if okC x then none else some x
theorem turnL {cf : Nat → List D → Store → Mi.R D} {st : Store} {v : Option D} {s : Str} {x : D} (hx : x ∈ chars s) : cstep cf [1] [1] true [(.cmp .nin (.var 1) (.cst (.str "abcdefghijklmnopqrstuvwxyz")))] (.var 1) [some (.str s), v] x st = .ok (keepC x) st := by
  obtain ⟨c, rfl⟩ := chars_str x hx
  unfold cstep
  simp only [bindT, if_true, put, Mi.wipe, List.set_cons_zero, List.set_cons_succ]
  simp only [evc, ev, List.getElem?_cons_zero, List.getElem?_cons_succ, R.bind_ok, nin_s, asBool_ok]
  unfold keepC
  cases okC (.str ⟨#[c]⟩) <;> simp
theorem keep_all : ∀ xs : List D, (xs.filterMap keepC).isEmpty = xs.all okC
  | [] => rfl
  | x :: xs => by
    rw [List.filterMap_cons, List.all_cons]
    unfold keepC
    cases okC x
    · rfl
    · simp only [if_true, Bool.true_and]; exact keep_all xs
theorem keep_plain {s : Str} : plains ((chars s).filterMap keepC) = true := plains_all fun x hx => by
  obtain ⟨y, hy, e⟩ := List.mem_filterMap.mp hx
  unfold keepC at e
  split at e
  · cases e
  · cases e
    obtain ⟨c, rfl⟩ := chars_str x hy
    rfl
theorem keep_len {s : Str} : ((chars s).filterMap keepC).length ≤ s.length := by
  refine Nat.le_trans (List.length_filterMap_le _ _) ?_
  simp [chars, Str.length]
theorem eq_nil {xs : List D} {st : Store} (h : plains xs = true) : compop .eq (.lst xs) (.lst []) st = .ok (.bl xs.isEmpty) st := by
  simp only [compop, look_lst', comparable, Mi.plain, h, plains, dep, deps, eqv]
  rw [if_pos (by simp)]
  cases xs <;> rfl
end Dr
/-! DrD: words drawn, slots as dicts of words. -/
namespace Dr
open PySem Mi
theorem stb_app {st : Store} {x : List Cell} {l : Nat} {a c b : Int} (h : l < st.length) : stb (st ++ x) l a c b = stb st l a c b ++ x := by
  unfold stb; rw [List.set_append_left _ _ h]
theorem word_at {ws : List Str} (hz : ∀ z ∈ ws, z.length ≤ 20) {r : Int} (h0 : 0 ≤ r) (h1 : r < ws.length) : ∃ w : Str, w.length ≤ 20 ∧ ∀ s : Store, index (.lst (ws.map D.str)) (.int r) s = .ok (.str w) s := by
  have hk : r.toNat < ws.length := by omega
  refine ⟨ws[r.toNat], hz _ (List.getElem_mem _), fun s => index_l look_lst' ?_⟩
  rw [nth_nat (k := r.toNat) (by simpa using hk) (by omega)]
  simp [hk]
theorem plains_strs : ∀ zs : List Str, plains (zs.map D.str) = true
  | [] => by simp [plains]
  | z :: zs => by rw [List.map_cons, plains, plains_strs zs]; rfl
theorem deps_strs : ∀ zs : List Str, deps (zs.map D.str) = 0
  | [] => by simp [deps]
  | z :: zs => by rw [List.map_cons, deps, deps_strs zs]; rfl
theorem sortOk_strs {zs : List Str} (h : zs.length ≤ 1000) : sortOk (zs.map D.str) = true := by
  unfold sortOk
  rw [plains_strs, deps_strs]
  have h1 : (zs.map D.str).all (fun a => (zs.map D.str).all fun b => PySem.W.alike (toPy a) (toPy b)) = true := by
    rw [List.all_map, List.all_eq_true]
    intro x _
    rw [Function.comp_apply, List.all_map, List.all_eq_true]
    intro y _
    rfl
  rw [h1, List.length_map]
  have h3 : zs.length ≤ sizeLine := small_le h (by decide)
  simp [h3, List.all_map]
theorem sortD_strs {zs : List Str} : ∃ ys : List Str, sortD (zs.map D.str) = ys.map D.str ∧ ys.length = zs.length ∧ ∀ y ∈ ys, y ∈ zs := by
  refine ⟨zs.mergeSort (PySem.W.dataLe false fun z : Str => PyData.str z), ?_, by simp, fun y hy => List.mem_mergeSort.mp hy⟩
  unfold sortD
  exact (List.map_mergeSort (f := D.str) (r := PySem.W.dataLe false fun z : Str => PyData.str z) (s := PySem.W.dataLe false toPy) (fun _ _ _ _ => rfl)).symm
/-- slots: words, each with something flat -/
def Slots (kvs : List (L2.Key × D)) : Prop := (∃ zs : List Str, kvs.map (fun q => kD q.1) = zs.map D.str ∧ ∀ z ∈ zs, z.length ≤ 20) ∧ kvs.length ≤ 10
theorem slots_nil : Slots [] := ⟨⟨[], rfl, fun z hz => by cases hz⟩, by simp⟩
theorem slots_sorted {st : Store} {m : Nat} {kvs : List (L2.Key × D)} (hm : st[m]? = some (.dk kvs)) (h : Slots kvs) : ∃ ys : List Str, prim .sorted true [.loc m] st = .ok (.lst (ys.map D.str)) st ∧ ys.length = kvs.length ∧ ∀ y ∈ ys, y.length ≤ 20 := by
  obtain ⟨⟨zs, e, hz⟩, hl⟩ := h
  have lz : zs.length = kvs.length := by
    have := congrArg List.length e
    simpa using this.symm
  obtain ⟨ys, e2, hy, hm2⟩ := sortD_strs (zs := zs)
  refine ⟨ys, ?_, by omega, fun y h => hz y (hm2 y h)⟩
  have lk : look st (.loc m) = .loc m := by simp only [look, hm]
  have da : dctAt st (.loc m) = some (m, kvs) := by simp only [dctAt, hm]
  simp only [prim, lk, da, e, sortOk_strs (show zs.length ≤ 1000 by omega), if_true, e2]
  exact made_ok (small_le (b := 1000) (by simp; omega) (by decide))
theorem slots_len {st : Store} {m : Nat} {kvs : List (L2.Key × D)} (hm : st[m]? = some (.dk kvs)) {fz : Bool} : prim .len fz [.loc m] st = .ok (.int kvs.length) st := by
  have lk : look st (.loc m) = .loc m := by simp only [look, hm]
  have da : dctAt st (.loc m) = some (m, kvs) := by simp only [dctAt, hm]
  simp only [prim, lk, da]
theorem slots_ne {st : Store} {m : Nat} {kvs : List (L2.Key × D)} (hm : st[m]? = some (.dk kvs)) : compop .ne (.loc m) (.loc st.length) (st ++ [.dk []]) = .ok (.bl (!kvs.isEmpty)) (st ++ [.dk []]) := by
  have h1 : (st ++ [Cell.dk []])[m]? = some (.dk kvs) := by rw [List.getElem?_append_left (List.getElem?_eq_some_iff.mp hm).1]; exact hm
  have h2 : (st ++ [Cell.dk []])[st.length]? = some (.dk []) := by simp
  have lk : look (st ++ [Cell.dk []]) (.loc m) = .loc m := by simp only [look, h1]
  have lk2 : look (st ++ [Cell.dk []]) (.loc st.length) = .loc st.length := by simp only [look, h2]
  have da : dctAt (st ++ [Cell.dk []]) (.loc m) = some (m, kvs) := by simp only [dctAt, h1]
  have da2 : dctAt (st ++ [Cell.dk []]) (.loc st.length) = some (st.length, []) := by simp only [dctAt, h2]
  simp only [compop, lk, lk2]
  rw [if_neg (by simp [comparable, Mi.plain])]
  unfold emptyEq
  simp only [da, da2]
  rfl
theorem madeD_nil {st : Store} : madeD [] st = .ok (.loc st.length) (st ++ [.dk []]) := by
  simp [madeD, pairD, dmerge]
/-! a dict made of words -/
theorem slots_put {kvs : List (L2.Key × D)} (h : ∃ zs : List Str, kvs.map (fun q => kD q.1) = zs.map D.str ∧ ∀ z ∈ zs, z.length ≤ 20) {s : Str} (hs : s.length ≤ 20) {v : D} : (∃ zs : List Str, (dput kvs (.inr s) v).map (fun q => kD q.1) = zs.map D.str ∧ ∀ z ∈ zs, z.length ≤ 20) ∧ (dput kvs (.inr s) v).length ≤ kvs.length + 1 := by
  obtain ⟨zs, e, hz⟩ := h
  unfold dput
  split
  · refine ⟨⟨zs, ?_, hz⟩, by simp⟩
    rw [← e, List.map_map]
    refine List.map_congr_left fun q _ => ?_
    show kD (if q.1 = .inr s then (q.1, v) else q).1 = kD q.1
    split <;> rfl
  · refine ⟨⟨zs ++ [s], by rw [List.map_append, List.map_append, e]; rfl, fun z hz' => ?_⟩, by simp⟩
    rcases List.mem_append.mp hz' with q | q
    · exact hz z q
    · simp only [List.mem_cons, List.not_mem_nil, or_false] at q
      subst q; exact hs
theorem slots_merge : ∀ {more acc : List (L2.Key × D)}, (∀ kv ∈ more, ∃ s : Str, kv.1 = .inr s ∧ s.length ≤ 20) → (∃ zs : List Str, acc.map (fun q => kD q.1) = zs.map D.str ∧ ∀ z ∈ zs, z.length ≤ 20) → (∃ zs : List Str, (dmerge acc more).map (fun q => kD q.1) = zs.map D.str ∧ ∀ z ∈ zs, z.length ≤ 20) ∧ (dmerge acc more).length ≤ acc.length + more.length
  | [], acc, _, h => ⟨h, by simp [dmerge]⟩
  | (k, v) :: more, acc, hm, h => by
    obtain ⟨s, e, hs⟩ := hm (k, v) (.head _)
    simp only at e
    subst e
    obtain ⟨h1, l1⟩ := slots_put h hs (v := v)
    obtain ⟨h2, l2⟩ := slots_merge (fun kv hk => hm kv (.tail _ hk)) h1
    refine ⟨h2, ?_⟩
    rw [List.length_cons]
    have : dmerge acc ((Sum.inr s, v) :: more) = dmerge (dput acc (.inr s) v) more := rfl
    rw [this]
    omega
theorem pairT_words : ∀ {ys : List D}, (∀ y ∈ ys, ∃ (s : Str) (v : D), y = .tup [.str s, v] ∧ s.length ≤ 20) → ∃ kvs, pairT ys = some kvs ∧ kvs.length = ys.length ∧ ∀ kv ∈ kvs, ∃ s : Str, kv.1 = .inr s ∧ s.length ≤ 20
  | [], _ => ⟨[], by simp [pairT], rfl, fun kv hk => by cases hk⟩
  | y :: ys, h => by
    obtain ⟨s, v, rfl, hs⟩ := h y (.head _)
    obtain ⟨kvs, e, hl, hk⟩ := pairT_words fun y hy => h y (.tail _ hy)
    refine ⟨(.inr s, v) :: kvs, by simp [pairT, keyD, e], by simp [hl], fun kv hk' => ?_⟩
    cases hk' with
    | head => exact ⟨s, rfl, hs⟩
    | tail _ q => exact hk kv q
theorem dict_words {ys : List D} {st : Store} {fz : Bool} (h : ∀ y ∈ ys, ∃ (s : Str) (v : D), y = .tup [.str s, v] ∧ s.length ≤ 20) (hl : ys.length ≤ 10) : ∃ kvs, prim .dict fz [.lst ys] st = .ok (.loc st.length) (st ++ [.dk kvs]) ∧ Slots kvs := by
  obtain ⟨kvs, e, hk, hw⟩ := pairT_words h
  obtain ⟨h1, h2⟩ := slots_merge (acc := []) hw ⟨[], rfl, fun z hz => by cases hz⟩
  refine ⟨dmerge [] kvs, ?_, h1, by simp at h2; omega⟩
  simp only [prim, look_lst', e]
  rw [if_pos (by omega)]
end Dr
/-! DrE: what spots, goals, worths and deeds are: the program's answers. The eight defs stand at the places 0 to 7. -/
namespace Pr
open PySem Mi Dr
def b0 : List S := [.ret (.and (.isa (.var 0) [.int]) (.not (.isa (.var 0) [.bool])))]
def f0 : Fn := ⟨"is_whole", 1, 1, [], b0⟩
def b1 : List S := [.ret (.and (.isa (.var 0) [.tuple]) (.cmp .eq (.prm .len true [(.var 0)]) (.var 1)))]
def f1 : Fn := ⟨"is_tuple_of", 2, 2, [], b1⟩
def b2 : List S := [.iff (.or (.not (.isa (.var 0) [.str])) (.or (.cmp .inn (.var 0) (.glo "KEPT" (.tup [(.str "again"), (.str "alike"), (.str "as"), (.str "at"), (.str "blame"), (.str "box"), (.str "by"), (.str "cover"), (.str "end"), (.str "few"), (.str "free"), (.str "grip"), (.str "hand"), (.str "if"), (.str "kept"), (.str "least"), (.str "link"), (.str "look"), (.str "make"), (.str "move"), (.str "name"), (.str "named"), (.str "none"), (.str "rely"), (.str "room"), (.str "rows"), (.str "run"), (.str "safe"), (.str "sheet"), (.str "sure"), (.str "there"), (.str "to"), (.str "uses"), (.str "worth"), (.str "write")]))) (.not (.chn .le .le (.cst (.int 1)) (.prm .len true [(.var 0)]) (.glo "LONGEST" (.int 6)))))) [.ret (.cst (.bl false))] [], .forr [1] true (.iSeq (.var 0)) [.iff (.cmp .nin (.var 1) (.glo "LETTERS" (.str "abcdefghijklmnopqrstuvwxyz"))) [.ret (.cst (.bl false))] []], .ret (.cst (.bl true))]
def f2 : Fn := ⟨"is_word", 1, 2, [], b2⟩
def b3 : List S := [.ret (.and (.call true 0 [(.var 0)] []) (.chn .le .le (.cst (.int 0)) (.var 0) (.glo "MOST_WORTH" (.int 999))))]
def f3 : Fn := ⟨"is_worth", 1, 1, [], b3⟩
def b4 : List S := [.ret (.and (.call true 1 [(.var 0), (.cst (.int 2))] []) (.and (.or (.cmp .isc (.idx (.var 0) (.cst (.int 0))) (.cst .non)) (.call true 2 [(.idx (.var 0) (.cst (.int 0)))] [])) (.call true 2 [(.idx (.var 0) (.cst (.int 1)))] [])))]
def f4 : Fn := ⟨"is_spot", 1, 1, [], b4⟩
def b5 : List S := [.ret (.or (.call true 4 [(.var 0)] []) (.and (.call true 1 [(.var 0), (.cst (.int 1))] []) (.call true 2 [(.idx (.var 0) (.cst (.int 0)))] [])))]
def f5 : Fn := ⟨"is_goal", 1, 1, [], b5⟩
def b6 : List S := [.iff (.cmp .inn (.var 0) (.tup [(.cst (.str "look")), (.cst (.str "grip"))])) [.ret (.and (.cmp .eq (.prm .len true [(.var 1)]) (.cst (.int 2))) (.and (.call true 2 [(.idx (.var 1) (.cst (.int 0)))] []) (.call true 4 [(.idx (.var 1) (.cst (.int 1)))] [])))] [], .iff (.cmp .eq (.var 0) (.cst (.str "make"))) [.ret (.and (.cmp .eq (.prm .len true [(.var 1)]) (.cst (.int 2))) (.and (.call true 4 [(.idx (.var 1) (.cst (.int 0)))] []) (.call true 3 [(.idx (.var 1) (.cst (.int 1)))] [])))] [], .iff (.cmp .eq (.var 0) (.cst (.str "write"))) [.ret (.and (.cmp .eq (.prm .len true [(.var 1)]) (.cst (.int 2))) (.and (.call true 5 [(.idx (.var 1) (.cst (.int 0)))] []) (.call true 3 [(.idx (.var 1) (.cst (.int 1)))] [])))] [], .iff (.cmp .eq (.var 0) (.cst (.str "box"))) [.ret (.and (.cmp .eq (.prm .len true [(.var 1)]) (.cst (.int 1))) (.call true 2 [(.idx (.var 1) (.cst (.int 0)))] []))] [], .iff (.cmp .eq (.var 0) (.cst (.str "free"))) [.ret (.and (.cmp .eq (.prm .len true [(.var 1)]) (.cst (.int 1))) (.call true 4 [(.idx (.var 1) (.cst (.int 0)))] []))] [], .ret (.and (.cmp .inn (.var 0) (.tup [(.cst (.str "move")), (.cst (.str "link"))])) (.and (.cmp .eq (.prm .len true [(.var 1)]) (.cst (.int 2))) (.and (.call true 4 [(.idx (.var 1) (.cst (.int 0)))] []) (.call true 4 [(.idx (.var 1) (.cst (.int 1)))] []))))]
def f6 : Fn := ⟨"are_parts", 2, 2, [], b6⟩
def b7 : List S := [.iff (.or (.not (.isa (.var 0) [.tuple])) (.or (.cmp .eq (.var 0) (.tup [])) (.not (.isa (.idx (.var 0) (.cst (.int 0))) [.str])))) [.ret (.cst (.bl false))] [], .ret (.call true 6 [(.idx (.var 0) (.cst (.int 0))), (.slc true (.var 0) [(.cst (.int 1))] [])] [])]
def f7 : Fn := ⟨"is_deed", 1, 1, [], b7⟩
theorem lits : (("look" : Str) == ("look" : Str)) = true ∧ (("look" : Str) == ("grip" : Str)) = false ∧ (("look" : Str) == ("make" : Str)) = false ∧ (("look" : Str) == ("write" : Str)) = false ∧ (("look" : Str) == ("box" : Str)) = false ∧ (("look" : Str) == ("free" : Str)) = false ∧ (("look" : Str) == ("move" : Str)) = false ∧ (("look" : Str) == ("link" : Str)) = false ∧ (("grip" : Str) == ("look" : Str)) = false ∧ (("grip" : Str) == ("grip" : Str)) = true ∧ (("grip" : Str) == ("make" : Str)) = false ∧ (("grip" : Str) == ("write" : Str)) = false ∧ (("grip" : Str) == ("box" : Str)) = false ∧ (("grip" : Str) == ("free" : Str)) = false ∧ (("grip" : Str) == ("move" : Str)) = false ∧ (("grip" : Str) == ("link" : Str)) = false ∧ (("make" : Str) == ("look" : Str)) = false ∧ (("make" : Str) == ("grip" : Str)) = false ∧ (("make" : Str) == ("make" : Str)) = true ∧ (("make" : Str) == ("write" : Str)) = false ∧ (("make" : Str) == ("box" : Str)) = false ∧ (("make" : Str) == ("free" : Str)) = false ∧ (("make" : Str) == ("move" : Str)) = false ∧ (("make" : Str) == ("link" : Str)) = false ∧ (("write" : Str) == ("look" : Str)) = false ∧ (("write" : Str) == ("grip" : Str)) = false ∧ (("write" : Str) == ("make" : Str)) = false ∧ (("write" : Str) == ("write" : Str)) = true ∧ (("write" : Str) == ("box" : Str)) = false ∧ (("write" : Str) == ("free" : Str)) = false ∧ (("write" : Str) == ("move" : Str)) = false ∧ (("write" : Str) == ("link" : Str)) = false ∧ (("box" : Str) == ("look" : Str)) = false ∧ (("box" : Str) == ("grip" : Str)) = false ∧ (("box" : Str) == ("make" : Str)) = false ∧ (("box" : Str) == ("write" : Str)) = false ∧ (("box" : Str) == ("box" : Str)) = true ∧ (("box" : Str) == ("free" : Str)) = false ∧ (("box" : Str) == ("move" : Str)) = false ∧ (("box" : Str) == ("link" : Str)) = false ∧ (("free" : Str) == ("look" : Str)) = false ∧ (("free" : Str) == ("grip" : Str)) = false ∧ (("free" : Str) == ("make" : Str)) = false ∧ (("free" : Str) == ("write" : Str)) = false ∧ (("free" : Str) == ("box" : Str)) = false ∧ (("free" : Str) == ("free" : Str)) = true ∧ (("free" : Str) == ("move" : Str)) = false ∧ (("free" : Str) == ("link" : Str)) = false ∧ (("move" : Str) == ("look" : Str)) = false ∧ (("move" : Str) == ("grip" : Str)) = false ∧ (("move" : Str) == ("make" : Str)) = false ∧ (("move" : Str) == ("write" : Str)) = false ∧ (("move" : Str) == ("box" : Str)) = false ∧ (("move" : Str) == ("free" : Str)) = false ∧ (("move" : Str) == ("move" : Str)) = true ∧ (("move" : Str) == ("link" : Str)) = false ∧ (("link" : Str) == ("look" : Str)) = false ∧ (("link" : Str) == ("grip" : Str)) = false ∧ (("link" : Str) == ("make" : Str)) = false ∧ (("link" : Str) == ("write" : Str)) = false ∧ (("link" : Str) == ("box" : Str)) = false ∧ (("link" : Str) == ("free" : Str)) = false ∧ (("link" : Str) == ("move" : Str)) = false ∧ (("link" : Str) == ("link" : Str)) = true := by decide +kernel
/-- a word of a deed, or another one -/
theorem word_cases (w : Str) : w = ("look" : Str) ∨ w = ("grip" : Str) ∨ w = ("make" : Str) ∨ w = ("write" : Str) ∨ w = ("box" : Str) ∨ w = ("free" : Str) ∨ w = ("move" : Str) ∨ w = ("link" : Str) ∨ ((w == ("look" : Str)) = false ∧ (("look" : Str) == w) = false ∧ (w == ("grip" : Str)) = false ∧ (("grip" : Str) == w) = false ∧ (w == ("make" : Str)) = false ∧ (("make" : Str) == w) = false ∧ (w == ("write" : Str)) = false ∧ (("write" : Str) == w) = false ∧ (w == ("box" : Str)) = false ∧ (("box" : Str) == w) = false ∧ (w == ("free" : Str)) = false ∧ (("free" : Str) == w) = false ∧ (w == ("move" : Str)) = false ∧ (("move" : Str) == w) = false ∧ (w == ("link" : Str)) = false ∧ (("link" : Str) == w) = false) := by
  have ne : ∀ x y : Str, x ≠ y → (x == y) = false := fun x y h => by simpa using h
  by_cases h0 : w = ("look" : Str)
  · exact .inl h0
  by_cases h1 : w = ("grip" : Str)
  · exact .inr <| .inl h1
  by_cases h2 : w = ("make" : Str)
  · exact .inr <| .inr <| .inl h2
  by_cases h3 : w = ("write" : Str)
  · exact .inr <| .inr <| .inr <| .inl h3
  by_cases h4 : w = ("box" : Str)
  · exact .inr <| .inr <| .inr <| .inr <| .inl h4
  by_cases h5 : w = ("free" : Str)
  · exact .inr <| .inr <| .inr <| .inr <| .inr <| .inl h5
  by_cases h6 : w = ("move" : Str)
  · exact .inr <| .inr <| .inr <| .inr <| .inr <| .inr <| .inl h6
  by_cases h7 : w = ("link" : Str)
  · exact .inr <| .inr <| .inr <| .inr <| .inr <| .inr <| .inr <| .inl h7
  exact .inr <| .inr <| .inr <| .inr <| .inr <| .inr <| .inr <| .inr <| ⟨ne _ _ h0, ne _ _ (Ne.symm h0), ne _ _ h1, ne _ _ (Ne.symm h1), ne _ _ h2, ne _ _ (Ne.symm h2), ne _ _ h3, ne _ _ (Ne.symm h3), ne _ _ h4, ne _ _ (Ne.symm h4), ne _ _ h5, ne _ _ (Ne.symm h5), ne _ _ h6, ne _ _ (Ne.symm h6), ne _ _ h7, ne _ _ (Ne.symm h7)⟩
/- things of no place, of texts that are not too long -/
mutual
def fine : D → Bool
  | .loc _ => false
  | .zr => false
  | .str s => decide (s.length ≤ 10000)
  | .tup xs => fines xs
  | .lst xs => fines xs
  | _ => true
def fines : List D → Bool
  | [] => true
  | x :: xs => fine x && fines xs
end
mutual
theorem fine_flat : ∀ {d : D}, fine d = true → flat d = true
  | .loc _, h => by simp [fine] at h
  | .zr, h => by simp [fine] at h
  | .tup xs, h => by unfold fine at h; unfold flat; exact fines_flats h
  | .lst xs, h => by unfold fine at h; unfold flat; exact fines_flats h
  | .non, _ => rfl
  | .bl _, _ => rfl
  | .int _, _ => rfl
  | .str _, _ => rfl
  | .exc _, _ => rfl
  | .odd, _ => rfl
theorem fines_flats : ∀ {xs : List D}, fines xs = true → flats xs = true
  | [], _ => rfl
  | x :: xs, h => by
    unfold fines at h
    unfold flats
    rw [Bool.and_eq_true] at h ⊢
    exact ⟨fine_flat h.1, fines_flats h.2⟩
end
theorem fines_mem : ∀ {xs : List D}, fines xs = true ↔ ∀ x ∈ xs, fine x = true
  | [] => ⟨fun _ x hx => (nomatch hx), fun _ => by unfold fines; rfl⟩
  | x :: xs => by
    unfold fines
    rw [Bool.and_eq_true, fines_mem]
    simp
theorem fine_tup {xs : List D} : fine (.tup xs) = fines xs := by unfold fine; rfl
theorem fine_lst {xs : List D} : fine (.lst xs) = fines xs := by unfold fine; rfl
theorem fines_cons {x : D} {xs : List D} : fines (x :: xs) = (fine x && fines xs) := by rw [fines]
theorem fines_nil : fines [] = true := by rw [fines]
theorem fine_str {s : Str} : fine (.str s) = true ↔ s.length ≤ 10000 := by unfold fine; simp
def isNon (d : D) : Bool := match d with | .non => true | _ => false
def wB (d : D) : Bool := match d with | .str s => wordB s | _ => false
def spotB (d : D) : Bool := match d with | .tup [a, b] => (isNon a || wB a) && wB b | _ => false
def goalB (d : D) : Bool := spotB d || (match d with | .tup [a] => wB a | _ => false)
def worthB (d : D) : Bool := match d with | .int i => decide (0 ≤ i) && decide (i ≤ 999) | _ => false
def two (p q : D → Bool) (ps : List D) : Bool := match ps with | [a, b] => p a && q b | _ => false
def one (p : D → Bool) (ps : List D) : Bool := match ps with | [a] => p a | _ => false
def partsB (w : Str) (ps : List D) : Bool :=
  if ("look" == w || "grip" == w) = true then two wB spotB ps else
  if (w == "make") = true then two spotB worthB ps else
  if (w == "write") = true then two goalB worthB ps else
  if (w == "box") = true then one wB ps else
  if (w == "free") = true then one spotB ps else
  ("move" == w || "link" == w) && two spotB spotB ps
def deedB (d : D) : Bool := match d with | .tup (.str w :: ps) => partsB w ps | _ => false
theorem canB {st : Store} {k : Bool} : canon st (.bl k) st = .ok (.bl k) st := canon_bl keeps_refl |>.trans (by rw [List.take_length])
theorem isc_non {d : D} {st : Store} : compop .isc d .non st = .ok (.bl (isNon d)) st := by cases d <;> rfl
theorem eq_str {x y : Str} {st : Store} : compop .eq (.str x) (.str y) st = .ok (.bl (x == y)) st := by
  simp [compop, comparable, Mi.plain, dep, eqv]
theorem in2 {w x y : Str} {st : Store} : compop .inn (.str w) (.tup [.str x, .str y]) st = .ok (.bl (x == w || y == w)) st := by
  simp [compop, member, inseq, comparable, Mi.plain, dep, eqv, boolR]
theorem nin23 {k : Int} {st : Store} : compop .nin (.int k) (.tup [.int 2, .int 3]) st = .ok (.bl (!((2 : Int) == k || (3 : Int) == k))) st := by
  simp [compop, member, inseq, comparable, Mi.plain, dep, eqv, boolR]
theorem ix0 {x : D} {xs : List D} {st : Store} : index (.tup (x :: xs)) (.int 0) st = .ok x st := index_t look_tup' (by rw [nth_nat (i := 0) (k := 0) (by simp) rfl]; rfl)
theorem ix1 {x y : D} {xs : List D} {st : Store} : index (.tup (x :: y :: xs)) (.int 1) st = .ok y st := index_t look_tup' (by rw [nth_nat (i := 1) (k := 1) (by simp) rfl]; rfl)
theorem ix2 {x y z : D} {xs : List D} {st : Store} : index (.tup (x :: y :: z :: xs)) (.int 2) st = .ok z st := index_t look_tup' (by rw [nth_nat (i := 2) (k := 2) (by simp) rfl]; rfl)
theorem eq_unit {xs : List D} {st : Store} : compop .eq (.tup xs) (.tup []) st = .ok (.bl xs.isEmpty) st := by
  have e : compop .eq (.tup xs) (.tup []) st = if comparable (.tup xs) (.tup []) = true then .ok (.bl (eqv (.tup xs) (.tup []))) st else boolR (emptyEq st (.tup xs) (.tup [])) st := rfl
  rw [e]
  split
  · cases xs <;> simp [eqv, eqvs]
  · simp [emptyEq, boolR]
theorem cut_tail (x : D) (xs : List D) : Mi.cut (x :: xs) (some 1) none = xs := by
  simp [Mi.cut, sIx, HT.sIx]
theorem sl_tail {x : D} {xs : List D} {st : Store} {fz : Bool} : slice fz (.tup (x :: xs)) (some 1) none st = .ok (.tup xs) st := by
  simp only [slice, look_tup', cut_tail]
theorem cut_two (x y : D) (xs : List D) : Mi.cut (x :: y :: xs) none (some 2) = [x, y] := by
  simp [Mi.cut, sIx, HT.sIx]
theorem sl_two {x y : D} {xs : List D} {st : Store} {fz : Bool} : slice fz (.tup (x :: y :: xs)) none (some 2) st = .ok (.tup [x, y]) st := by
  simp only [slice, look_tup', cut_two]
theorem len_tu {xs : List D} {fz : Bool} {st : Store} : prim .len fz [.tup xs] st = .ok (.int xs.length) st := len_t look_tup'
theorem b2_eq : b2 = bW := rfl
section
variable {T : List Fn} {n : Nat} {st : Store}
theorem is_w (h2 : T[2]? = some f2) {d : D} (hd : fine d = true) : callN T (n + 1) 2 [d] st = .ok (.bl (wB d)) st := by
  cases d with
  | str s => exact isw_ok (i := 2) h2 (fine_str.mp hd)
  | _ => exact isw_no (i := 2) h2 rfl
theorem worth_p (h0 : T[0]? = some f0) (h3 : T[3]? = some f3) {d : D} (hd : fine d = true) : callN T (n + 2) 3 [d] st = .ok (.bl (worthB d)) st := by
  have c0 : callN T (n + 1) 0 [d] st = .ok (.bl (match d with | .int _ => true | _ => false)) st := by
    rw [callN_s h0 rfl]
    show leave st (exs (callN T n) b0 [some d] st) = _
    unfold b0
    have hz : d ≠ .zr := by rintro rfl; simp [fine] at hd
    cases d <;> first | exact absurd rfl hz | simp only [exs, ex, ev, evs, List.getElem?_cons_zero, R.bind_ok, isTy, List.any_cons, List.any_nil, Bool.or_false, truth_bl, asBool_ok, R.toF_ok, F.thn_rt, leave_rt, canB, Bool.not_true, Bool.not_false]
  rw [callN_s h3 rfl]
  show leave st (exs (callN T (n + 1)) b3 [some d] st) = _
  unfold b3
  simp only [exs, ex, ev, evs, List.getElem?_cons_zero, R.bind_ok, List.append_nil, if_true, c0, freeze_bl]
  cases d <;> simp only [truth_bl, R.bind_ok, R.toF_ok, F.thn_rt, leave_rt, canB, worthB, le_int]
  case int i =>
    have e1 : decide (0 ≤ i) = !decide (i < 0) := by rw [← decide_not]; exact decide_eq_decide.mpr (by omega)
    have e2 : decide (i ≤ 999) = !decide (999 < i) := by rw [← decide_not]; exact decide_eq_decide.mpr (by omega)
    rw [e1, e2]
    cases decide (i < 0) <;> simp only [Bool.not_true, Bool.not_false, R.bind_ok, R.toF_ok, F.thn_rt, leave_rt, canB, Bool.false_and, Bool.true_and]
def ofLen (k : Int) (d : D) : Bool := match d with | .tup xs => ((xs.length : Int) == k) | _ => false
theorem tup_p (h1 : T[1]? = some f1) {d : D} {k : Int} (hd : fine d = true) : callN T (n + 1) 1 [d, .int k] st = .ok (.bl (ofLen k d)) st := by
  rw [callN_s h1 rfl]
  show leave st (exs (callN T n) b1 [some d, some (.int k)] st) = _
  unfold b1
  cases d <;> simp only [exs, ex, ev, evs, List.getElem?_cons_zero, List.getElem?_cons_succ, R.bind_ok, isTy, List.any_cons, List.any_nil, Bool.or_false, truth_bl, asBool_ok, R.toF_ok, F.thn_rt, leave_rt, canB, len_tu, eq_int, ofLen]
theorem spot_p (h1 : T[1]? = some f1) (h2 : T[2]? = some f2) (h4 : T[4]? = some f4) {d : D} (hd : fine d = true) : callN T (n + 2) 4 [d] st = .ok (.bl (spotB d)) st := by
  rw [callN_s h4 rfl]
  show leave st (exs (callN T (n + 1)) b4 [some d] st) = _
  have tp := tup_p (n := n) (st := st) h1 (k := 2) hd
  unfold b4
  simp only [exs, ex, ev, evs, List.getElem?_cons_zero, R.bind_ok, List.append_nil, if_true, tp, freeze_bl, ofLen]
  cases d with
  | tup xs =>
    rw [fine_tup] at hd
    match xs, hd with
    | [a, b], hd =>
      simp only [fines_cons, Bool.and_eq_true] at hd
      have wa := is_w (n := n) (st := st) h2 hd.1
      have wb := is_w (n := n) (st := st) h2 hd.2.1
      simp only [List.length_cons, List.length_nil, truth_bl, ix0, ix1, R.bind_ok, isc_non, wa, wb, freeze_bl, spotB]
      rw [show (((0 + 1 + 1 : Nat) : Int) == 2) = true from rfl]
      simp only
      cases isNon a <;> cases wB a <;> simp only [R.bind_ok, truth_bl, R.toF_ok, F.thn_rt, leave_rt, canB, wb, freeze_bl, Bool.true_or, Bool.or_true, Bool.false_or, Bool.true_and, Bool.false_and]
    | [], _ => simp [spotB, canB]
    | [_], _ => simp [spotB, canB]
    | _ :: _ :: _ :: r, _ =>
      have : (((r.length + 1 + 1 + 1 : Nat) : Int) == 2) = false := by simp; omega
      simp only [List.length_cons, this, truth_bl, R.toF_ok, F.thn_rt, leave_rt, canB, spotB]
  | _ => simp only [truth_bl, R.toF_ok, F.thn_rt, leave_rt, canB, spotB]
theorem goal_p (h1 : T[1]? = some f1) (h2 : T[2]? = some f2) (h4 : T[4]? = some f4) (h5 : T[5]? = some f5) {d : D} (hd : fine d = true) : callN T (n + 3) 5 [d] st = .ok (.bl (goalB d)) st := by
  rw [callN_s h5 rfl]
  show leave st (exs (callN T (n + 2)) b5 [some d] st) = _
  have sp := spot_p (n := n) (st := st) h1 h2 h4 hd
  have tp := tup_p (n := n + 1) (st := st) h1 (k := 1) hd
  unfold b5
  simp only [exs, ex, ev, evs, List.getElem?_cons_zero, R.bind_ok, List.append_nil, if_true, sp, tp, freeze_bl, truth_bl]
  unfold goalB
  cases hs : spotB d with
  | true => simp only [R.toF_ok, F.thn_rt, leave_rt, canB, Bool.true_or]
  | false =>
    simp only [Bool.false_or]
    cases d with
    | tup xs =>
      rw [fine_tup] at hd
      match xs, hd with
      | [a], hd =>
        simp only [fines_cons, Bool.and_eq_true] at hd
        have wa := is_w (n := n + 1) (st := st) h2 hd.1
        rw [show ofLen 1 (.tup [a]) = true from rfl]
        simp only [ix0, R.bind_ok, wa, freeze_bl, R.toF_ok, F.thn_rt, leave_rt, canB]
      | [], _ => simp [canB, ofLen]
      | x :: y :: r, _ =>
        have : ofLen 1 (.tup (x :: y :: r)) = false := by simp [ofLen]; omega
        simp only [this, R.toF_ok, F.thn_rt, leave_rt, canB]
    | _ => simp only [ofLen, R.toF_ok, F.thn_rt, leave_rt, canB]
end
def twoE (p q : Nat) : E := .and (.cmp .eq (.prm .len true [(.var 1)]) (.cst (.int 2))) (.and (.call true p [(.idx (.var 1) (.cst (.int 0)))] []) (.call true q [(.idx (.var 1) (.cst (.int 1)))] []))
def oneE (p : Nat) : E := .and (.cmp .eq (.prm .len true [(.var 1)]) (.cst (.int 1))) (.call true p [(.idx (.var 1) (.cst (.int 0)))] [])
theorem two_ev {cf : Nat → List D → Store → Mi.R D} {p q : Nat} {P Q : D → Bool} {ρ : Mi.Env} {st : Store} {ps : List D} (hp : ∀ d, fine d = true → cf p [d] st = .ok (.bl (P d)) st) (hq : ∀ d, fine d = true → cf q [d] st = .ok (.bl (Q d)) st) (hf : fines ps = true) (h : ρ[1]? = some (some (.tup ps))) : ev cf (twoE p q) ρ st = .ok (.bl (two P Q ps)) st := by
  unfold twoE
  simp only [ev, evs, h, R.bind_ok, len_tu, eq_int, List.append_nil, if_true]
  match ps, hf with
  | [a, b], hf =>
    simp only [fines_cons, Bool.and_eq_true] at hf
    rw [show (([a, b].length : Int) == 2) = true from rfl]
    simp only [truth_bl, ix0, ix1, R.bind_ok, hp a hf.1, hq b hf.2.1, freeze_bl, two]
    cases P a <;> simp only [R.bind_ok, Bool.false_and, Bool.true_and, hq b hf.2.1, freeze_bl]
  | [], _ => simp [two]
  | [_], _ => simp [two]
  | x :: y :: z :: r, _ =>
    have : (((x :: y :: z :: r).length : Int) == 2) = false := by simp; omega
    simp only [this, truth_bl, two]
theorem one_ev {cf : Nat → List D → Store → Mi.R D} {p : Nat} {P : D → Bool} {ρ : Mi.Env} {st : Store} {ps : List D} (hp : ∀ d, fine d = true → cf p [d] st = .ok (.bl (P d)) st) (hf : fines ps = true) (h : ρ[1]? = some (some (.tup ps))) : ev cf (oneE p) ρ st = .ok (.bl (one P ps)) st := by
  unfold oneE
  simp only [ev, evs, h, R.bind_ok, len_tu, eq_int, List.append_nil, if_true]
  match ps, hf with
  | [a], hf =>
    simp only [fines_cons, Bool.and_eq_true] at hf
    rw [show (([a].length : Int) == 1) = true from rfl]
    simp only [truth_bl, ix0, R.bind_ok, hp a hf.1, freeze_bl, one]
  | [], _ => simp [one]
  | x :: y :: r, _ =>
    have : (((x :: y :: r).length : Int) == 1) = false := by simp; omega
    simp only [this, truth_bl, one]
theorem b6_eq : b6 = [.iff (.cmp .inn (.var 0) (.tup [(.cst (.str "look")), (.cst (.str "grip"))])) [.ret (twoE 2 4)] [], .iff (.cmp .eq (.var 0) (.cst (.str "make"))) [.ret (twoE 4 3)] [], .iff (.cmp .eq (.var 0) (.cst (.str "write"))) [.ret (twoE 5 3)] [], .iff (.cmp .eq (.var 0) (.cst (.str "box"))) [.ret (oneE 2)] [], .iff (.cmp .eq (.var 0) (.cst (.str "free"))) [.ret (oneE 4)] [], .ret (.and (.cmp .inn (.var 0) (.tup [(.cst (.str "move")), (.cst (.str "link"))])) (twoE 4 4))] := rfl
section
variable {T : List Fn} {n : Nat} {st : Store}
theorem parts_p (h0 : T[0]? = some f0) (h1 : T[1]? = some f1) (h2 : T[2]? = some f2) (h3 : T[3]? = some f3) (h4 : T[4]? = some f4) (h5 : T[5]? = some f5) (h6 : T[6]? = some f6) {w : Str} {ps : List D} (hf : fines ps = true) : callN T (n + 4) 6 [.str w, .tup ps] st = .ok (.bl (partsB w ps)) st := by
  have pw : ∀ d, fine d = true → callN T (n + 3) 2 [d] st = .ok (.bl (wB d)) st := fun d hd => is_w (n := n + 2) h2 hd
  have ps' : ∀ d, fine d = true → callN T (n + 3) 4 [d] st = .ok (.bl (spotB d)) st := fun d hd => spot_p (n := n + 1) h1 h2 h4 hd
  have pg : ∀ d, fine d = true → callN T (n + 3) 5 [d] st = .ok (.bl (goalB d)) st := fun d hd => goal_p (n := n) h1 h2 h4 h5 hd
  have pv : ∀ d, fine d = true → callN T (n + 3) 3 [d] st = .ok (.bl (worthB d)) st := fun d hd => worth_p (n := n + 1) h0 h3 hd
  have e1 := two_ev (ρ := [some (.str w), some (.tup ps)]) pw ps' hf rfl
  have e2 := two_ev (ρ := [some (.str w), some (.tup ps)]) ps' pv hf rfl
  have e3 := two_ev (ρ := [some (.str w), some (.tup ps)]) pg pv hf rfl
  have e4 := one_ev (ρ := [some (.str w), some (.tup ps)]) pw hf rfl
  have e5 := one_ev (ρ := [some (.str w), some (.tup ps)]) ps' hf rfl
  have e6 := two_ev (ρ := [some (.str w), some (.tup ps)]) ps' ps' hf rfl
  rw [callN_s h6 rfl]
  show leave st (exs (callN T (n + 3)) b6 [some (.str w), some (.tup ps)] st) = _
  have s2 : (2 : Nat) ≤ sizeLine := small_le (b := 2) (by decide) (by decide)
  rw [b6_eq]
  unfold partsB
  cases g1 : ("look" : Str) == w || ("grip" : Str) == w <;> cases g2 : w == ("make" : Str) <;> cases g3 : w == ("write" : Str) <;> cases g4 : w == ("box" : Str) <;> cases g5 : w == ("free" : Str) <;> cases g6 : ("move" : Str) == w || ("link" : Str) == w
  all_goals simp only [exs, ex, ev, evs, List.getElem?_cons_zero, R.bind_ok, List.length_cons, List.length_nil, Nat.zero_add, s2, if_true, Bool.false_eq_true, if_false, in2, eq_str, g1, g2, g3, g4, g5, g6, asBool_ok, truth_bl, R.toF_ok, F.thn_nx, e1, e2, e3, e4, e5, e6, F.thn_rt, leave_rt, canB, Bool.false_and, Bool.true_and]
theorem deed_p (h0 : T[0]? = some f0) (h1 : T[1]? = some f1) (h2 : T[2]? = some f2) (h3 : T[3]? = some f3) (h4 : T[4]? = some f4) (h5 : T[5]? = some f5) (h6 : T[6]? = some f6) (h7 : T[7]? = some f7) {d : D} (hd : fine d = true) : callN T (n + 5) 7 [d] st = .ok (.bl (deedB d)) st := by
  rw [callN_s h7 rfl]
  show leave st (exs (callN T (n + 4)) b7 [some d] st) = _
  have z0 : (0 : Nat) ≤ sizeLine := Nat.zero_le _
  unfold b7
  cases d with
  | tup xs =>
    rw [fine_tup] at hd
    match xs, hd with
    | [], _ => simp only [exs, ex, ev, evs, List.getElem?_cons_zero, R.bind_ok, isTy, List.any_cons, List.any_nil, Bool.or_false, Bool.not_true, asBool_ok, truth_bl, List.length_nil, z0, if_true, eq_unit, List.isEmpty_nil, R.toF_ok, F.thn_rt, leave_rt, canB, deedB]
    | x :: ps, hd =>
      rw [fines_cons, Bool.and_eq_true] at hd
      cases x with
      | str w =>
        have pp := parts_p (n := n) (st := st) h0 h1 h2 h3 h4 h5 h6 (w := w) hd.2
        simp only [exs, ex, ev, evs, List.getElem?_cons_zero, R.bind_ok, isTy, List.any_cons, List.any_nil, Bool.or_false, Bool.not_true, asBool_ok, truth_bl, List.length_nil, z0, if_true, eq_unit, List.isEmpty_cons, ix0, Bool.false_eq_true, if_false, R.toF_ok, F.thn_nx, oneIntR, oneInt, sl_tail, List.append_nil, pp, freeze_bl, F.thn_rt, leave_rt, canB, deedB]
      | _ => simp only [exs, ex, ev, evs, List.getElem?_cons_zero, R.bind_ok, isTy, List.any_cons, List.any_nil, Bool.or_false, Bool.not_true, asBool_ok, truth_bl, List.length_nil, z0, if_true, eq_unit, List.isEmpty_cons, ix0, Bool.not_false, R.toF_ok, F.thn_rt, leave_rt, canB, deedB]
  | _ => simp only [exs, ex, ev, evs, List.getElem?_cons_zero, R.bind_ok, isTy, List.any_cons, List.any_nil, Bool.or_false, Bool.not_false, asBool_ok, truth_bl, if_true, R.toF_ok, F.thn_rt, leave_rt, canB, deedB]
end
end Pr
/-! DrF: texts as lists of signs; what is joined is parted again. -/
namespace Dr
open PySem Mi
def mkS (l : List Nat) : Str := ⟨l.toArray⟩
theorem mkS_list (l : List Nat) : (mkS l).cps.toList = l := rfl
theorem mkS_len (l : List Nat) : (mkS l).length = l.length := by simp [mkS, Str.length]
theorem str_ext {x y : Str} (h : x.cps.toList = y.cps.toList) : x = y := by
  cases x; cases y
  simp only at h
  rw [Array.toList_inj.mp h]
theorem app_list (x y : Str) : (x ++ y).cps.toList = x.cps.toList ++ y.cps.toList := by
  show (x.cps ++ y.cps).toList = _
  simp
theorem mkS_app (a b : List Nat) : mkS a ++ mkS b = mkS (a ++ b) := str_ext (by rw [app_list]; rfl)
/-- signs with c between -/
def jl (c : Nat) : List (List Nat) → List Nat
  | [] => []
  | [x] => x
  | x :: y :: r => x ++ c :: jl c (y :: r)
theorem join_jl (c : Nat) : ∀ P : List Str, (Str.join ⟨#[c]⟩ P).cps.toList = jl c (P.map (·.cps.toList))
  | [] => rfl
  | [x] => rfl
  | x :: y :: r => by
    show (x ++ ⟨#[c]⟩ ++ Str.join ⟨#[c]⟩ (y :: r)).cps.toList = _
    rw [app_list, app_list, join_jl c (y :: r)]
    simp [jl]
theorem cut_at {c : Nat} : ∀ {p q r s : List Nat}, c ∉ p → c ∉ q → p ++ c :: r = q ++ c :: s → p = q ∧ r = s
  | [], [], r, s, _, _, h => ⟨rfl, by simpa using h⟩
  | [], y :: q, r, s, _, hq, h => by
    simp only [List.nil_append, List.cons_append, List.cons.injEq] at h
    exact absurd (List.Mem.head _) (h.1 ▸ hq)
  | x :: p, [], r, s, hp, _, h => by
    simp only [List.nil_append, List.cons_append, List.cons.injEq] at h
    exact absurd (List.Mem.head _) (h.1.symm ▸ hp)
  | x :: p, y :: q, r, s, hp, hq, h => by
    simp only [List.cons_append, List.cons.injEq] at h
    obtain ⟨e1, e2⟩ := cut_at (fun z => hp (.tail _ z)) (fun z => hq (.tail _ z)) h.2
    exact ⟨by rw [h.1, e1], e2⟩
theorem jl_inj {c : Nat} : ∀ {P Q : List (List Nat)}, P ≠ [] → Q ≠ [] → (∀ p ∈ P, c ∉ p) → (∀ q ∈ Q, c ∉ q) → jl c P = jl c Q → P = Q
  | [], _, h, _, _, _, _ => absurd rfl h
  | _, [], _, h, _, _, _ => absurd rfl h
  | [x], [y], _, _, _, _, h => by rw [show x = y from h]
  | [x], y :: z :: r, _, _, hp, _, h => by
    have : c ∈ x := by rw [show x = y ++ c :: jl c (z :: r) from h]; simp
    exact absurd this (hp x (.head _))
  | x :: z :: r, [y], _, _, _, hq, h => by
    have : c ∈ y := by rw [show y = x ++ c :: jl c (z :: r) from h.symm]; simp
    exact absurd this (hq y (.head _))
  | x :: x2 :: r, y :: y2 :: s, _, _, hp, hq, h => by
    obtain ⟨e1, e2⟩ := cut_at (hp x (.head _)) (hq y (.head _)) (show x ++ c :: jl c (x2 :: r) = y ++ c :: jl c (y2 :: s) from h)
    rw [e1, jl_inj (by simp) (by simp) (fun p h => hp p (.tail _ h)) (fun q h => hq q (.tail _ h)) e2]
theorem map_list_inj : ∀ {P Q : List Str}, P.map (·.cps.toList) = Q.map (·.cps.toList) → P = Q
  | [], [], _ => rfl
  | [], _ :: _, h => by cases h
  | _ :: _, [], h => by cases h
  | x :: P, y :: Q, h => by
    simp only [List.map_cons, List.cons.injEq] at h
    rw [str_ext h.1, map_list_inj h.2]
theorem txt_join (sep : Str) (l : List Str) : Txt.join sep l = Str.join sep l := by
  have := PyProof.Rows.join_plain_closes sep l
  simpa using this
theorem split_ne (x y : Str) : Txt.split x y ≠ [] := by
  have := PyProof.Rows.split_pos x y
  intro e; rw [e] at this; simp at this
/-- what is joined is parted again -/
theorem split_join {c : Nat} {ws : List Str} (h0 : ws ≠ []) (h : ∀ w ∈ ws, c ∉ w.cps.toList) : Txt.split (Txt.join ⟨#[c]⟩ ws) ⟨#[c]⟩ = ws := by
  have e1 := StrLaws.join_split (Txt.join ⟨#[c]⟩ ws) ⟨#[c]⟩
  have f := StrLaws.split_free (Txt.join ⟨#[c]⟩ ws) c
  have e2 := congrArg (fun z : Str => z.cps.toList) (e1.trans (txt_join ⟨#[c]⟩ ws))
  simp only [join_jl] at e2
  refine map_list_inj (jl_inj (c := c) (by simp [split_ne]) (by simp [h0]) (fun p hp => ?_) (fun q hq => ?_) e2)
  · obtain ⟨z, hz, rfl⟩ := List.mem_map.mp hp
    exact f z hz
  · obtain ⟨z, hz, rfl⟩ := List.mem_map.mp hq
    exact h z hz
/-- single signs, joined by nothing -/
theorem join_singles (l : List Nat) : Txt.join ⟨#[]⟩ (l.map fun c => ⟨#[c]⟩) = mkS l := by
  rw [txt_join]
  refine str_ext ?_
  induction l with
  | nil => rfl
  | cons c l ih =>
    cases l with
    | nil => rfl
    | cons d l =>
      show ((⟨#[c]⟩ : Str) ++ ⟨#[]⟩ ++ Str.join ⟨#[]⟩ (((d :: l).map fun c => (⟨#[c]⟩ : Str)))).cps.toList = _
      rw [app_list, app_list, ih]
      rfl
/-! cuts -/
theorem cut_to (xs : List α) {p : Int} (h0 : 0 ≤ p) (h1 : p ≤ xs.length) : Mi.cut xs none (some p) = xs.take p.toNat := by
  have e : sIx xs.length xs.length (some p) = p.toNat := by
    unfold sIx HT.sIx
    simp only
    split <;> omega
  have e0 : sIx xs.length 0 none = 0 := rfl
  unfold Mi.cut
  rw [e, e0]; simp
theorem cut_from (xs : List α) {p : Int} (h0 : 0 ≤ p) (h1 : p ≤ xs.length) : Mi.cut xs (some p) none = xs.drop p.toNat := by
  have e : sIx xs.length 0 (some p) = p.toNat := by
    unfold sIx HT.sIx
    simp only
    split <;> omega
  have e0 : sIx xs.length xs.length none = xs.length := rfl
  unfold Mi.cut
  rw [e, e0]
  exact List.take_of_length_le (by simp)
end Dr
/-! DrG: the laws' words are words, and unlike. -/
namespace Dr
open PySem Mi
/-- a word -/
structure Word (w : Str) : Prop where
  let_ : ∀ c ∈ w.cps.toList, 97 ≤ c ∧ c ≤ 122
  pos : 1 ≤ w.length
  six : w.length ≤ 6
  own : inKept w = false
theorem inKept_mem {w : Str} (h : inKept w = true) : w ∈ keptS := by
  unfold inKept at h
  rw [kept_map, List.any_map, List.any_eq_true] at h
  obtain ⟨s, hs, e⟩ := h
  have e : s = w := by simpa [eqv] using e
  exact e ▸ hs
theorem kept_z : ∀ s ∈ keptS, s.length ≤ 5 ∧ inKept (s ++ mkS [122]) = false := by decide +kernel
theorem rep_own : ∀ c, c < 26 → ∀ n, n < 6 → inKept (mkS (List.replicate (n + 1) (97 + c))) = false := by decide +kernel
theorem lett_nth : ∀ r, r < 26 → lett.cps.toList[r]? = some (97 + r) := by decide +kernel
theorem lett_ix {r : Int} (h0 : 0 ≤ r) (h1 : r < 26) (st : Store) : index (.str lett) (.int r) st = .ok (.str (mkS [97 + r.toNat])) st := by
  have hl : lett.length ≤ 16000000 := by rw [lett26]; decide
  have hk : r.toNat < 26 := by omega
  have h26 : lett.cps.toList.length = 26 := by have := lett26; simpa [Str.length] using this
  have e : (ixN lett.cps.toList.length r).bind (lett.cps.toList[·]?) = some (97 + r.toNat) := by
    have h2 : r < (lett.cps.toList.length : Int) := by rw [h26]; exact h1
    simp only [ixN, h0, h2, if_true, Option.bind_some]
    exact lett_nth _ hk
  simp only [index, look_str', if_pos (small_le hl (Nat.le_refl _)), e]
  rfl
/-- each turn of a comprehension gives what its number tells -/
theorem loopC_nth {ck : Store → Prop} {f : D → Store → Mi.R (Option D)} {s : Store} (hc : ck s) (g : Nat → D) : ∀ (xs : List D) (k : Nat), (∀ (j : Nat) (x : D), xs[j]? = some x → f x s = .ok (some (g (k + j))) s) → loopC ck f xs s = .ok ((List.range' k xs.length).map g) s
  | [], k, _ => by unfold loopC; rw [if_pos hc]; rfl
  | x :: xs, k, h => by
    unfold loopC
    rw [if_pos hc, h 0 x rfl]
    simp only [R.bind_ok]
    rw [loopC_nth hc g xs (k + 1) fun j y hj => by
      have := h (j + 1) y (by simpa using hj)
      rwa [show k + (j + 1) = k + 1 + j by omega] at this]
    simp only [R.bind_ok, List.length_cons, List.range'_succ, List.map_cons]
    rfl
theorem rng_list {cf : Nat → List D → Store → Mi.R D} {own tg : List Nat} {es : List E} {elt : E} {ρ : Mi.Env} {st : Store} {r : Int} (g : Nat → D) (h : evs cf es ρ st = .ok [.int r] st) (h0 : 0 ≤ r) (h1 : r ≤ 1000)
    (hx : ∀ k : Nat, (k : Int) < r → cstep cf own tg true [] elt ρ (.int (0 + (k : Int))) st = .ok (some (g k)) st) :
    ev cf (.comp true own tg true (.iRng es) [] elt) ρ st = .ok (.lst ((List.range r.toNat).map g)) st := by
  rw [ev_comp, iRng_ev h (rangeD1 (inRI h0 (by omega)))]
  simp only [R.bind_ok]
  have e := loopC_nth (ck := fun s => stands s ((List.range r.toNat).map fun (k : Nat) => D.int (0 + (k : Int))) none) (f := cstep cf own tg true [] elt ρ) (s := st) trivial g ((List.range r.toNat).map fun (k : Nat) => D.int (0 + (k : Int))) 0 (fun j x hj => by
    rw [List.getElem?_map] at hj
    obtain ⟨k, hk, rfl⟩ := Option.map_eq_some_iff.mp hj
    have e : k = j := by
      rw [List.getElem?_range (by have := (List.getElem?_eq_some_iff.mp hk).1; simpa using this)] at hk
      exact (Option.some.inj hk).symm
    subst e
    rw [Nat.zero_add]
    exact hx k (by have := (List.getElem?_eq_some_iff.mp hk).1; simp at this; omega))
  rw [List.length_map, List.length_range, ← List.range_eq_range'] at e
  rw [e]
  simp only [R.bind_ok]
  exact made_ok (small_le (b := 1000) (by rw [List.length_map, List.length_range]; omega) (by decide))
theorem seq_list {cf : Nat → List D → Store → Mi.R D} {own tg : List Nat} {it elt : E} {ρ : Mi.Env} {st : Store} {zs : List Str} (g : Str → Str) (h : ev cf it ρ st = .ok (.lst (zs.map D.str)) st) (hl : zs.length ≤ 1000)
    (hx : ∀ z ∈ zs, cstep cf own tg true [] elt ρ (.str z) st = .ok (some (.str (g z))) st) :
    ev cf (.comp true own tg true (.iSeq it) [] elt) ρ st = .ok (.lst ((zs.map g).map D.str)) st := by
  have ei : evI cf (.iSeq it) ρ st = .ok (zs.map D.str, none) st := by simp only [evI, h, R.bind_ok, walks]
  rw [ev_comp, ei]
  simp only [R.bind_ok]
  rw [loopC_map (ck := fun s => stands s _ none) trivial (fun d => match d with | .str z => some (.str (g z)) | _ => none) fun x hx' => by
    obtain ⟨z, hz, rfl⟩ := List.mem_map.mp hx'
    exact hx z hz]
  simp only [R.bind_ok]
  have e : (zs.map D.str).filterMap (fun d => match d with | .str z => some (.str (g z)) | _ => none) = (zs.map g).map D.str := by
    clear hx hl h ei
    induction zs with
    | nil => rfl
    | cons z zs ih => simp only [List.map_cons, List.filterMap_cons]; rw [ih]
  rw [e]
  exact made_ok (small_le (b := 1000) (by simp; omega) (by decide))
theorem nodup_map {g : Nat → Str} {n : Nat} (h : ∀ i j, i < j → j < n → g i ≠ g j) : ((List.range n).map g).Nodup := by
  refine List.pairwise_map.mpr (List.Pairwise.imp_of_mem (fun ha hb hab => ?_) List.pairwise_lt_range)
  exact h _ _ hab (List.mem_range.mp hb)
/-- the word of number k: the base, with a sign in it -/
def wk (bl : List Nat) (p : Nat) (s : Nat) : Str := mkS (bl.take p ++ s :: bl.drop (p + 1))
def fin (w : Str) : Str := w ++ srep (mkS [122]) (b2i (inKept w))
theorem fin_eq (w : Str) : fin w = if inKept w then w ++ mkS [122] else w := by
  unfold fin
  cases inKept w
  · refine str_ext ?_
    rw [app_list]
    simp [srep, b2i]
  · refine str_ext ?_
    simp [srep, b2i, mkS]
theorem wk_list (bl : List Nat) (p s : Nat) : (wk bl p s).cps.toList = bl.take p ++ s :: bl.drop (p + 1) := rfl
theorem wk_len {bl : List Nat} {p s : Nat} (h : p < bl.length) : (wk bl p s).length = bl.length := by
  unfold wk; rw [mkS_len]; simp; omega
theorem fin_at {bl : List Nat} {p s : Nat} (h : p < bl.length) : (fin (wk bl p s)).cps.toList[p]? = some s := by
  have e : ∃ t, (fin (wk bl p s)).cps.toList = bl.take p ++ s :: t := by
    rw [fin_eq]
    split
    · exact ⟨bl.drop (p + 1) ++ [122], by rw [app_list, wk_list]; simp [mkS]⟩
    · exact ⟨_, wk_list bl p s⟩
  obtain ⟨t, e⟩ := e
  have hp : (bl.take p).length = p := by simp; omega
  rw [e, List.getElem?_append_right (by omega), hp]; simp
theorem fin_word {bl : List Nat} {p s : Nat} (h : p < bl.length) (hl : bl.length ≤ 6) (hb : ∀ c ∈ bl, 97 ≤ c ∧ c ≤ 122) (hs : 97 ≤ s ∧ s ≤ 122) : Word (fin (wk bl p s)) := by
  have hw : ∀ c ∈ (wk bl p s).cps.toList, 97 ≤ c ∧ c ≤ 122 := fun c hc => by
    rw [wk_list] at hc
    rcases List.mem_append.mp hc with hc | hc
    · exact hb c (List.mem_of_mem_take hc)
    · cases hc with
      | head => exact hs
      | tail _ hc => exact hb c (List.mem_of_mem_drop hc)
  have n := wk_len (s := s) h
  rw [fin_eq]
  cases hk : inKept (wk bl p s) with
  | true =>
    obtain ⟨k1, k2⟩ := kept_z _ (inKept_mem hk)
    rw [if_pos rfl]
    refine ⟨fun c hc => ?_, ?_, ?_, k2⟩
    · rw [app_list] at hc
      rcases List.mem_append.mp hc with hc | hc
      · exact hw c hc
      · simp [mkS] at hc; omega
    · rw [slen_app, mkS_len]; simp
    · rw [slen_app, mkS_len]; simp; omega
  | false =>
    rw [if_neg (by simp)]
    exact ⟨hw, by omega, by omega, hk⟩
theorem exs_nil {cf : Nat → List D → Store → Mi.R D} {ρ : Mi.Env} {st : Store} : exs cf [] ρ st = .nx ρ st := by rw [exs]
def gA (r : Int) (k : Nat) : Str := mkS (List.replicate (k + 1) (97 + r.toNat))
def bcF (r : Int) (k : Nat) : Nat := 97 + ((r + 7 * (0 + (k : Int))).fmod 26).toNat
def scF (r : Int) (k : Nat) : Nat := 97 + ((r + 5 + 3 * (0 + (k : Int))).fmod 26).toNat
def blF (r x : Int) : List Nat := (List.range (1 + x).toNat).map (bcF r)
theorem blF_len (r x : Int) : (blF r x).length = (1 + x).toNat := by simp [blF]
theorem blF_let (r x : Int) : ∀ c ∈ blF r x, 97 ≤ c ∧ c ≤ 122 := fun c hc => by
  obtain ⟨k, _, rfl⟩ := List.mem_map.mp hc
  obtain ⟨m0, m1⟩ := mod26 (r + 7 * (0 + (k : Int)))
  unfold bcF; omega
theorem scF_let (r : Int) (k : Nat) : 97 ≤ scF r k ∧ scF r k ≤ 122 := by
  obtain ⟨m0, m1⟩ := mod26 (r + 5 + 3 * (0 + (k : Int)))
  unfold scF; omega
theorem scF_ne (r : Int) {i j : Nat} (hij : i < j) (hj : j < 9) : scF r i ≠ scF r j := by
  have ei : (r + 5 + 3 * (0 + (i : Int))).fmod 26 = (r + 5 + 3 * (0 + (i : Int))) % 26 := Int.fmod_eq_emod_of_nonneg _ (by decide)
  have ej : (r + 5 + 3 * (0 + (j : Int))).fmod 26 = (r + 5 + 3 * (0 + (j : Int))) % 26 := Int.fmod_eq_emod_of_nonneg _ (by decide)
  unfold scF
  rw [ei, ej]
  omega
section
variable {cf : Nat → List D → Store → Mi.R D} {s : Store} {e0 e3 e4 e5 e6 e7 e8 e9 e10 e11 : Option D} {r x p : Int} {m : Nat}
theorem evA (p1 : 0 ≤ r) (q1 : r < 26) (hm : m ≤ 6) : ev cf wA [e0, some (.int m), some (.str lett), some (.int r), e4, e5, e6, e7, e8, e9, e10, e11] s = .ok (.lst (((List.range m).map (gA r)).map D.str)) s := by
  rw [List.map_map]
  refine rng_list (r := (m : Int)) (fun k => .str (gA r k)) (by simp only [evs, ev, List.getElem?_cons_zero, List.getElem?_cons_succ, R.bind_ok]) (by omega) (by omega) fun k hk => ?_
  have e : srep (mkS [97 + r.toNat]) (1 + (0 + (k : Int))) = gA r k := by
    refine str_ext ?_
    show (List.replicate (1 + (0 + (k : Int))).toNat [97 + r.toNat]).flatten.toArray.toList = _
    rw [show (1 + (0 + (k : Int))).toNat = k + 1 by omega]
    simp [gA, mkS]
  unfold cstep
  simp only [bindT, if_true, put, Mi.wipe, List.set_cons_zero, List.set_cons_succ]
  simp only [evc, ev, List.getElem?_cons_zero, List.getElem?_cons_succ, R.bind_ok, R.calm_ok, if_true, lett_ix p1 q1, add_int]
  rw [mul_s (by rw [mkS_len]; simp) (by omega) (by omega), e]
  simp only [R.calm_ok, R.bind_ok]
theorem evB (p1 : 0 ≤ r) (q1 : r < 26) (p3 : 0 ≤ x) (q3 : x < 6) : ev cf wB [e0, e3, some (.str lett), some (.int r), some (.int (1 + x)), e5, e6, e7, e8, e9, e10, e11] s = .ok (.lst (((blF r x).map fun c => (⟨#[c]⟩ : Str)).map D.str)) s := by
  rw [List.map_map]
  unfold blF
  rw [List.map_map]
  refine rng_list (r := 1 + x) (fun k => .str (mkS [bcF r k])) (by simp only [evs, ev, List.getElem?_cons_zero, List.getElem?_cons_succ, R.bind_ok]) (by omega) (by omega) fun k hk => ?_
  obtain ⟨m0, m1⟩ := mod26 (r + 7 * (0 + (k : Int)))
  unfold cstep
  simp only [bindT, if_true, put, Mi.wipe, List.set_cons_zero, List.set_cons_succ]
  simp only [evc, ev, List.getElem?_cons_zero, List.getElem?_cons_succ, R.bind_ok, R.calm_ok, if_true, mul_int (.inl sml7.1), add_int, mod_int (show (26 : Int) ≠ 0 by decide), lett_ix m0 m1, bcF]
theorem evC (hm : m ≤ 9) : ev cf wC [e0, some (.int m), some (.str lett), some (.int r), e4, e5, e6, e7, e8, e9, e10, e11] s = .ok (.lst (((List.range m).map fun k => mkS [scF r k]).map D.str)) s := by
  rw [List.map_map]
  refine rng_list (r := (m : Int)) (fun k => .str (mkS [scF r k])) (by simp only [evs, ev, List.getElem?_cons_zero, List.getElem?_cons_succ, R.bind_ok]) (by omega) (by omega) fun k hk => ?_
  obtain ⟨m0, m1⟩ := mod26 (r + 5 + 3 * (0 + (k : Int)))
  unfold cstep
  simp only [bindT, if_true, put, Mi.wipe, List.set_cons_zero, List.set_cons_succ]
  simp only [evc, ev, List.getElem?_cons_zero, List.getElem?_cons_succ, R.bind_ok, R.calm_ok, if_true, mul_int (.inl sml7.2), add_int, mod_int (show (26 : Int) ≠ 0 by decide), lett_ix m0 m1, scF]
theorem evD {bl : List Nat} {sc : Nat → Nat} (hm : m ≤ 9) (hl : bl.length ≤ 6) (p0 : 0 ≤ p) (p1 : p < bl.length) : ev cf wD [e0, e3, e4, e9, e10, some (.int p), some (.str (mkS bl)), some (.lst (((List.range m).map fun k => mkS [sc k]).map D.str)), e5, e6, e7, e8] s = .ok (.lst (((List.range m).map fun k => wk bl p.toNat (sc k)).map D.str)) s := by
  have lb : (mkS bl).length ≤ 1000 := by rw [mkS_len]; omega
  have cut1 : cutS (mkS bl) none (some p) = mkS (bl.take p.toNat) := str_ext (by
    show (Mi.cut bl none (some p)).toArray.toList = _
    rw [cut_to bl p0 (by omega)]; rfl)
  have cut2 : cutS (mkS bl) (some (p + 1)) none = mkS (bl.drop (p.toNat + 1)) := str_ext (by
    show (Mi.cut bl (some (p + 1)) none).toArray.toList = _
    rw [cut_from bl (by omega) (by omega), show (p + 1).toNat = p.toNat + 1 by omega]; rfl)
  have ws0 : (List.range m).map (fun k => wk bl p.toNat (sc k)) = ((List.range m).map fun k => mkS [sc k]).map fun z => mkS (bl.take p.toNat) ++ z ++ mkS (bl.drop (p.toNat + 1)) := by
    rw [List.map_map]
    refine List.map_congr_left fun k _ => ?_
    show _ = mkS (bl.take p.toNat) ++ mkS [sc k] ++ mkS (bl.drop (p.toNat + 1))
    rw [mkS_app, mkS_app]
    simp [wk]
  rw [ws0]
  refine seq_list (fun z => mkS (bl.take p.toNat) ++ z ++ mkS (bl.drop (p.toNat + 1))) (by simp only [ev, List.getElem?_cons_zero, List.getElem?_cons_succ]) (by simp; omega) fun z hz => ?_
  obtain ⟨k, _, rfl⟩ := List.mem_map.mp hz
  have l1 : (mkS (bl.take p.toNat)).length ≤ 6 := by rw [mkS_len]; simp; omega
  have l2 : (mkS (bl.drop (p.toNat + 1))).length ≤ 6 := by rw [mkS_len]; simp; omega
  have l3 : (mkS [sc k]).length = 1 := rfl
  have k1 : ∀ s : Store, binop .add true (.str (mkS (bl.take p.toNat))) (.str (mkS [sc k])) s = .ok (.str (mkS (bl.take p.toNat) ++ mkS [sc k])) s := fun s => catS (by omega)
  have k2 : ∀ s : Store, binop .add true (.str (mkS (bl.take p.toNat) ++ mkS [sc k])) (.str (mkS (bl.drop (p.toNat + 1)))) s = .ok (.str (mkS (bl.take p.toNat) ++ mkS [sc k] ++ mkS (bl.drop (p.toNat + 1)))) s := fun s => catS (by rw [slen_app]; omega)
  unfold cstep
  simp only [bindT, if_true, put, Mi.wipe, List.set_cons_zero, List.set_cons_succ]
  simp only [evc, ev, evs, List.getElem?_cons_zero, List.getElem?_cons_succ, R.bind_ok, R.calm_ok, if_true, oneIntR, oneInt, add_int, slice_s lb, cut1, cut2, k1, k2]
theorem zS : ("z" : Str) = mkS [122] := by decide +kernel
theorem evE {kp : Nat} {ws : List Str} (hw : ws.length ≤ 9) (hl : ∀ w ∈ ws, w.length ≤ 6) (hk : ∀ st, cf kp [] st = .ok (.lst keptD) st) : True ∧ ev cf (wE kp) [e0, e3, e4, e9, e10, e11, e5, e6, some (.lst (ws.map D.str)), e7, e8, none] s = .ok (.lst ((ws.map fin).map D.str)) s := by
  refine ⟨trivial, ?_⟩
  refine seq_list fin (by simp only [ev, List.getElem?_cons_zero, List.getElem?_cons_succ]) (by omega) fun z hz => ?_
  have hz := hl z hz
  have hb : 0 ≤ b2i (inKept z) ∧ b2i (inKept z) ≤ 1 := by cases inKept z <;> decide
  have hr : (srep (mkS [122]) (b2i (inKept z))).length ≤ 1 := by
    rw [srep_len, mkS_len]
    simp; omega
  have k1 : ∀ s : Store, binop .add true (.str z) (.str (srep (mkS [122]) (b2i (inKept z)))) s = .ok (.str (fin z)) s := fun s => catS (by omega)
  have k2 : ∀ s : Store, binop .mul true (.str ("z" : Str)) (.int (b2i (inKept z))) s = .ok (.str (srep (mkS [122]) (b2i (inKept z)))) s := fun s => by
    rw [zS]
    exact mul_s (by rw [mkS_len]; simp) hb.1 (by omega)
  unfold cstep
  simp only [bindT, if_true, put, Mi.wipe, List.set_cons_zero, List.set_cons_succ]
  simp only [evc, ev, evs, List.getElem?_cons_zero, List.getElem?_cons_succ, R.bind_ok, R.calm_ok, if_true, List.append_nil, hk, freeze_lst, in_lst, bool_asInt, k2, k1]
end
theorem rcvJ {z : Str} {st : Store} : recv .join (.str z) st = true := rfl
theorem evJ {l : List Nat} (h : l.length ≤ 100) (st : Store) : meth .join true (.str ("" : Str)) [.lst ((l.map fun c => (⟨#[c]⟩ : Str)).map D.str)] st = .ok (.str (mkS l)) st := by
  have j := (join_ok (zs := l.map fun c => (⟨#[c]⟩ : Str)) (fun z hz => by obtain ⟨c, _, rfl⟩ := List.mem_map.mp hz; rfl) (by rw [List.length_map]; exact h) (st := st)).1
  rw [join_singles] at j
  exact j
theorem evJ2 {cf : Nat → List D → Store → Mi.R D} {ρ : Mi.Env} {l : List Nat} {st : Store} (h : l.length ≤ 100) (hb : ev cf wB ρ st = .ok (.lst ((l.map fun c => (⟨#[c]⟩ : Str)).map D.str)) st) : ev cf (.mth .join true (.cst (.str ("" : Str))) [wB]) ρ st = .ok (.str (mkS l)) st := by
  rw [ev, ev]
  simp only [R.bind_ok, rcvJ, if_true, evs, hb]
  exact evJ h st
theorem ex_asg {cf : Nat → List D → Store → Mi.R D} {ρ : Mi.Env} {st : Store} {i : Nat} {e : E} : ex cf (.asg i e) ρ st = (ev cf e ρ st).toF ρ fun d st => .nx (ρ.set i (some d)) st := by rw [ex]
theorem gA_word {r : Int} {k : Nat} (p1 : 0 ≤ r) (q1 : r < 26) (hk : k < 6) : Word (gA r k) := by
  have n1 : r.toNat < 26 := by omega
  refine ⟨fun c hc => ?_, ?_, ?_, rep_own _ n1 _ hk⟩
  · rw [show (gA r k).cps.toList = List.replicate (k + 1) (97 + r.toNat) from rfl] at hc
    have := List.eq_of_mem_replicate hc
    omega
  · unfold gA; rw [mkS_len]; simp
  · unfold gA; rw [mkS_len]; simp; omega
section
variable {T : List Fn} {nx kp wd n : Nat} {st : Store} {l : Nat} {a c : Int}
theorem words_good (h2 : T[nx]? = some ⟨"_law_next", 2, 4, [], bNx⟩) (h3 : T[kp]? = some ⟨"_law_kept", 0, 1, [], bKp⟩) (h5 : T[wd]? = some ⟨"_law_words", 2, 12, [], bWd nx kp⟩) (hl : l < st.length) {b : Int} {m : Nat} (hm : m ≤ 9) :
    ∃ (ws : List Str) (b' : Int), callN T (n + 2) wd [.loc l, .int m] (stb st l a c b) = .ok (.lst (ws.map D.str)) (stb st l a c b') ∧ ws.length = m ∧ (∀ w ∈ ws, Word w) ∧ ws.Nodup := by
  rw [callN_s h5 rfl]
  obtain ⟨r1, b1, p1, q1, e1⟩ := next_ok (n := n) (b := b) (a := a) (c := c) h2 hl (sz := 26) (by decide) (by decide)
  obtain ⟨r2, b2, p2, q2, e2⟩ := next_ok (n := n) (b := b1) (a := a) (c := c) h2 hl (sz := 4) (by decide) (by decide)
  have fl : ∀ ws : List Str, flat (.lst (ws.map D.str)) = true := fun ws => by
    unfold flat
    exact mem_flats fun x hx => by obtain ⟨z, _, rfl⟩ := List.mem_map.mp hx; rfl
  show ∃ (ws : List Str) (b' : Int), leave (stb st l a c b) (exs (callN T (n + 1)) (bWd nx kp) [some (.loc l), some (.int m), none, none, none, none, none, none, none, none, none, none] (stb st l a c b)) = _ ∧ _
  rw [bWd_eq]
  by_cases hA : r2 = 0 ∧ m < 7
  · obtain ⟨hA, hm7⟩ := hA
    subst hA
    have hm : m ≤ 6 := by omega
    have d7 : decide ((m : Int) < 7) = true := decide_eq_true (by omega)
    refine ⟨(List.range m).map (gA r1), b2, ?_, by simp, fun w hw => ?_, nodup_map fun i j hij hj e => ?_⟩
    · have f1 := fun st => evA (cf := callN T (n + 1)) (s := st) (e0 := some (.loc l)) (e4 := none) (e5 := none) (e6 := none) (e7 := none) (e8 := none) (e9 := none) (e10 := none) (e11 := none) p1 q1 hm
      have e0 : ((0 : Int) == 0) = true := rfl
      rw [← stb_canon (b := b) (fl _), ← leave_rt]
      simp only [exs, ex, ev, evs, List.getElem?_cons_zero, List.getElem?_cons_succ, R.bind_ok, R.toF_ok, F.thn_nx, List.append_nil, if_true, e1, e2, freeze_int, eq_int, e0, truth_bl, lt_int, d7, asBool_ok, List.set_cons_zero, List.set_cons_succ, f1, F.thn_rt]
    · obtain ⟨k, hk, rfl⟩ := List.mem_map.mp hw
      have hk := List.mem_range.mp hk
      exact gA_word p1 q1 (by omega)
    · have := congrArg Str.length e
      simp only [gA, mkS_len, List.length_replicate] at this
      omega
  · obtain ⟨r3, b3, p3, q3, e3⟩ := next_ok (n := n) (b := b2) (a := a) (c := c) h2 hl (sz := 6) (by decide) (by decide)
    obtain ⟨r4, b4, p4, q4, e4⟩ := next_ok (n := n) (b := b3) (a := a) (c := c) h2 hl (sz := 1 + r3) (by omega) (by omega)
    have bll := blF_len r1 r3
    have pb : r4.toNat < (blF r1 r3).length := by omega
    have l6 : (blF r1 r3).length ≤ 6 := by omega
    have kp1 := fun st => kept_ok (n := n) h3 (st := st)
    have f1 := fun st => evB (cf := callN T (n + 1)) (s := st) (e0 := some (.loc l)) (e3 := some (.int m)) (e5 := some (.int r4)) (e6 := none) (e7 := none) (e8 := none) (e9 := none) (e10 := none) (e11 := none) p1 q1 p3 q3
    have j1 := fun st => evJ2 (l := blF r1 r3) (by omega) (f1 st)
    have g1 := fun st => evC (cf := callN T (n + 1)) (s := st) (r := r1) (e0 := some (.loc l)) (e4 := some (.int (1 + r3))) (e5 := some (.int r4)) (e6 := some (.str (mkS (blF r1 r3)))) (e7 := none) (e8 := none) (e9 := none) (e10 := none) (e11 := none) hm
    have i1 := fun st => evD (cf := callN T (n + 1)) (s := st) (sc := scF r1) (e0 := some (.loc l)) (e3 := some (.int m)) (e4 := some (.str lett)) (e9 := some (.int r1)) (e10 := some (.int (1 + r3))) (e5 := none) (e6 := none) (e7 := none) (e8 := none) hm l6 p4 (by omega)
    have o1 := fun st => (evE (cf := callN T (n + 1)) (s := st) (kp := kp) (ws := (List.range m).map fun k => wk (blF r1 r3) r4.toNat (scF r1 k)) (e0 := some (.loc l)) (e3 := some (.int m)) (e4 := some (.str lett)) (e9 := some (.int r1)) (e10 := some (.int (1 + r3))) (e11 := some (.int r4)) (e5 := some (.str (mkS (blF r1 r3)))) (e6 := some (.lst (((List.range m).map fun k => mkS [scF r1 k]).map D.str))) (e7 := none) (e8 := none) (by simp; omega) (fun w hw => by obtain ⟨k, _, rfl⟩ := List.mem_map.mp hw; rw [wk_len pb]; omega) kp1).2
    refine ⟨((List.range m).map fun k => wk (blF r1 r3) r4.toNat (scF r1 k)).map fin, b4, ?_, by simp, fun w hw => ?_, ?_⟩
    · have x3 : asBool (ev (callN T (n + 1)) (.and (.cmp .eq (.call true nx [(.var 0), (.cst (.int 4))] []) (.cst (.int 0))) (.cmp .lt (.var 1) (.cst (.int 7)))) [some (.loc l), some (.int m), some (.str lett), some (.int r1), none, none, none, none, none, none, none, none] (stb st l a c b1)) = .ok false (stb st l a c b2) := by
        by_cases h0 : r2 = 0
        · subst h0
          have d7 : decide ((m : Int) < 7) = false := decide_eq_false (by omega)
          have e0 : ((0 : Int) == 0) = true := rfl
          simp only [ev, evs, List.getElem?_cons_zero, List.getElem?_cons_succ, R.bind_ok, List.append_nil, if_true, e2, freeze_int, eq_int, e0, truth_bl, lt_int, d7, asBool_ok]
        · have t2 : (r2 == 0) = false := by simpa using h0
          simp only [ev, evs, List.getElem?_cons_zero, List.getElem?_cons_succ, R.bind_ok, List.append_nil, if_true, e2, freeze_int, eq_int, t2, truth_bl, asBool_ok]
      rw [← stb_canon (b := b) (fl _), ← leave_rt]
      rw [exs_cons]
      simp only [ex, ev, evs, List.getElem?_cons_zero, List.getElem?_cons_succ, R.bind_ok, R.toF_ok, F.thn_nx, F.thn_rt, leave_rt, List.append_nil, if_true, Bool.false_eq_true, if_false, asBool_ok, truth_bl, Bool.not_true, Bool.not_false, freeze_bl, freeze_tup, freeze_lst, freeze_int, List.set_cons_zero, List.set_cons_succ, isTy, List.any_cons, List.any_nil, Bool.or_false, Bool.false_or, Bool.true_and, Bool.false_and, Bool.true_or, Bool.or_true, Bool.and_true, Bool.and_false, exs_nil]
      rw [exs_cons]
      simp only [ex, ev, evs, List.getElem?_cons_zero, List.getElem?_cons_succ, R.bind_ok, R.toF_ok, F.thn_nx, F.thn_rt, leave_rt, List.append_nil, if_true, Bool.false_eq_true, if_false, asBool_ok, truth_bl, Bool.not_true, Bool.not_false, freeze_bl, freeze_tup, freeze_lst, freeze_int, List.set_cons_zero, List.set_cons_succ, isTy, List.any_cons, List.any_nil, Bool.or_false, Bool.false_or, Bool.true_and, Bool.false_and, Bool.true_or, Bool.or_true, Bool.and_true, Bool.and_false, e1]
      rw [exs_cons, ex, x3, R.toF_ok, if_neg Bool.false_ne_true, exs_nil, F.thn_nx]
      rw [exs_cons]
      simp only [ex, ev, evs, List.getElem?_cons_zero, List.getElem?_cons_succ, R.bind_ok, R.toF_ok, F.thn_nx, F.thn_rt, leave_rt, List.append_nil, if_true, Bool.false_eq_true, if_false, asBool_ok, truth_bl, Bool.not_true, Bool.not_false, freeze_bl, freeze_tup, freeze_lst, freeze_int, List.set_cons_zero, List.set_cons_succ, isTy, List.any_cons, List.any_nil, Bool.or_false, Bool.false_or, Bool.true_and, Bool.false_and, Bool.true_or, Bool.or_true, Bool.and_true, Bool.and_false, e3, add_int]
      rw [exs_cons]
      simp only [ex, ev, evs, List.getElem?_cons_zero, List.getElem?_cons_succ, R.bind_ok, R.toF_ok, F.thn_nx, F.thn_rt, leave_rt, List.append_nil, if_true, Bool.false_eq_true, if_false, asBool_ok, truth_bl, Bool.not_true, Bool.not_false, freeze_bl, freeze_tup, freeze_lst, freeze_int, List.set_cons_zero, List.set_cons_succ, isTy, List.any_cons, List.any_nil, Bool.or_false, Bool.false_or, Bool.true_and, Bool.false_and, Bool.true_or, Bool.or_true, Bool.and_true, Bool.and_false, e4]
      rw [exs_cons]
      rw [ex_asg, j1, R.toF_ok, F.thn_nx]
      simp only [List.set_cons_zero, List.set_cons_succ]
      rw [exs_cons]
      simp only [ex, ev, evs, List.getElem?_cons_zero, List.getElem?_cons_succ, R.bind_ok, R.toF_ok, F.thn_nx, F.thn_rt, leave_rt, List.append_nil, if_true, Bool.false_eq_true, if_false, asBool_ok, truth_bl, Bool.not_true, Bool.not_false, freeze_bl, freeze_tup, freeze_lst, freeze_int, List.set_cons_zero, List.set_cons_succ, isTy, List.any_cons, List.any_nil, Bool.or_false, Bool.false_or, Bool.true_and, Bool.false_and, Bool.true_or, Bool.or_true, Bool.and_true, Bool.and_false, g1]
      rw [exs_cons]
      simp only [ex, ev, evs, List.getElem?_cons_zero, List.getElem?_cons_succ, R.bind_ok, R.toF_ok, F.thn_nx, F.thn_rt, leave_rt, List.append_nil, if_true, Bool.false_eq_true, if_false, asBool_ok, truth_bl, Bool.not_true, Bool.not_false, freeze_bl, freeze_tup, freeze_lst, freeze_int, List.set_cons_zero, List.set_cons_succ, isTy, List.any_cons, List.any_nil, Bool.or_false, Bool.false_or, Bool.true_and, Bool.false_and, Bool.true_or, Bool.or_true, Bool.and_true, Bool.and_false, i1]
      rw [exs_cons]
      simp only [ex, ev, evs, List.getElem?_cons_zero, List.getElem?_cons_succ, R.bind_ok, R.toF_ok, F.thn_nx, F.thn_rt, leave_rt, List.append_nil, if_true, Bool.false_eq_true, if_false, asBool_ok, truth_bl, Bool.not_true, Bool.not_false, freeze_bl, freeze_tup, freeze_lst, freeze_int, List.set_cons_zero, List.set_cons_succ, isTy, List.any_cons, List.any_nil, Bool.or_false, Bool.false_or, Bool.true_and, Bool.false_and, Bool.true_or, Bool.or_true, Bool.and_true, Bool.and_false, o1]
    · obtain ⟨z, hz, rfl⟩ := List.mem_map.mp hw
      obtain ⟨k, _, rfl⟩ := List.mem_map.mp hz
      exact fin_word pb l6 (blF_let _ _) (scF_let _ k)
    · rw [List.map_map]
      refine nodup_map fun i j hij hj e => ?_
      have := congrArg (fun z : Str => z.cps.toList[r4.toNat]?) e
      simp only [Function.comp, fin_at pb] at this
      exact scF_ne r1 hij (by omega) (Option.some.inj this)
end
end Dr
/-! DrH: small things for the walks: lists, loops, what can be shown. -/
namespace Pr
open PySem Mi Dr
theorem frz_flat' {d : D} (h : Mi.flat d = true) {k : Nat} {s : Store} : freezeTop k (.ok d s) = .ok d s := by
  cases d <;> first | rfl | (simp [Mi.flat] at h)
theorem frz_str' {z : Str} {k : Nat} {s : Store} : freezeTop k (.ok (.str z) s) = .ok (.str z) s := rfl
theorem cut_map' {α β : Type} (f : α → β) (xs : List α) (lo hi : Option Int) : Mi.cut (xs.map f) lo hi = (Mi.cut xs lo hi).map f := by
  simp [Mi.cut, List.map_drop, List.map_take]
/-- a part of what was mapped -/
theorem ix_tm {α : Type} {xs : List α} {f : α → D} {h : Nat} {x : α} (e : xs[h]? = some x) {i : Int} (hi : i = (h : Int)) {st : Store} : index (.tup (xs.map f)) (.int i) st = .ok (f x) st := by
  have hk := (List.getElem?_eq_some_iff.mp e).1
  refine index_t look_tup' ?_
  rw [nth_nat (k := h) (by simpa using hk) hi, List.getElem?_map, e]; rfl
theorem ix_lm {α : Type} {xs : List α} {f : α → D} {h : Nat} {x : α} (e : xs[h]? = some x) {i : Int} (hi : i = (h : Int)) {st : Store} : index (.lst (xs.map f)) (.int i) st = .ok (f x) st := by
  have hk := (List.getElem?_eq_some_iff.mp e).1
  refine index_l look_lst' ?_
  rw [nth_nat (k := h) (by simpa using hk) hi, List.getElem?_map, e]; rfl
theorem loopC_nil' {ck : Store → Prop} {f : D → Store → Mi.R (Option D)} {s : Store} (hc : ck s) : loopC ck f [] s = .ok [] s := by unfold loopC; rw [if_pos hc]
theorem loopC_cons' {ck : Store → Prop} {f : D → Store → Mi.R (Option D)} {s s1 s2 : Store} {x : D} {xs ys : List D} {o : Option D} (hc : ck s) (h : f x s = .ok o s1) (h2 : loopC ck f xs s1 = .ok ys s2) : loopC ck f (x :: xs) s = .ok (o.toList ++ ys) s2 := by
  unfold loopC; rw [if_pos hc, h]; simp only [R.bind_ok, h2]
/-- a comprehension over what was mapped: it keeps what q says, as g makes it -/
theorem loopC_flt {α : Type} {ck : Store → Prop} {f : D → Store → Mi.R (Option D)} {s : Store} (hc : ck s) (enc : α → D) (q : α → Bool) (g : α → D) : ∀ {xs : List α}, (∀ x ∈ xs, f (enc x) s = .ok (if q x then some (g x) else none) s) → loopC ck f (xs.map enc) s = .ok ((xs.filter q).map g) s
  | [], _ => loopC_nil' hc
  | x :: xs, h => by
    rw [List.map_cons, loopC_cons' hc (h x (.head _)) (loopC_flt hc enc q g fun y hy => h y (.tail _ hy)), List.filter_cons]
    cases q x <;> rfl
/-- a loop whose turns go on, or end by continue -/
theorem loopF_inv2 {ck : Store → Prop} {f : D → Mi.Env → Store → F} (P : Nat → Mi.Env → Store → Prop) : ∀ {xs : List D} {k : Nat} {ρ : Mi.Env} {s : Store} (_ : ∀ j ρ s, P j ρ s → ck s) (_ : ∀ (j : Nat) (x : D), xs[j]? = some x → ∀ ρ s, P (k + j) ρ s → ∃ ρ' s', (f x ρ s = .nx ρ' s' ∨ f x ρ s = .ct ρ' s') ∧ P (k + j + 1) ρ' s') (_ : P k ρ s),
    ∃ ρ' s', loopF ck f xs ρ s = .nx ρ' s' ∧ P (k + xs.length) ρ' s'
  | [], k, ρ, s, hc, _, h => ⟨ρ, s, by unfold loopF; rw [if_pos (hc _ _ _ h)], h⟩
  | x :: xs, k, ρ, s, hc, hf, h => by
    obtain ⟨ρ1, s1, e1, h1⟩ := hf 0 x rfl ρ s h
    obtain ⟨ρ2, s2, e2, h2⟩ := loopF_inv2 P (xs := xs) (k := k + 1) hc (fun j y hj ρ s hp => by
      have q := hf (j + 1) y (by simpa using hj) ρ s (by rw [show k + (j + 1) = k + 1 + j by omega]; exact hp)
      rw [show k + (j + 1) + 1 = k + 1 + j + 1 by omega] at q
      exact q) h1
    refine ⟨ρ2, s2, ?_, ?_⟩
    · unfold loopF
      rw [if_pos (hc _ _ _ h)]
      rcases e1 with e1 | e1 <;> rw [e1] <;> exact e2
    · rw [List.length_cons, show k + (xs.length + 1) = k + 1 + xs.length by omega]
      exact h2
theorem enum_map {α : Type} (dfl : α) (f : α → D) (xs : List α) : enumD (xs.map f) = (List.range xs.length).map fun (j : Nat) => D.tup [.int (j : Int), f (xs.getD j dfl)] := by
  apply List.ext_getElem?
  intro j
  by_cases h : j < xs.length
  · simp [enumD, List.getElem?_zipWith, List.getD_eq_getElem?_getD, h]
  · rw [List.getElem?_eq_none (by simp [enumD]; omega), List.getElem?_eq_none (by simp; omega)]
theorem ne_same' {x : Str} {st : Store} : compop .ne (.str x) (.str x) st = .ok (.bl false) st := by
  simp [compop, comparable, Mi.plain, dep, eqv]
theorem made_new' {ds : List D} {st : Store} (h : ds.length ≤ 1000) : made false ds st = .ok (.loc st.length) (st ++ [.lst ds]) := by
  unfold made; rw [if_pos (small_le h (by decide))]; rfl
theorem made_old' {ds : List D} {st : Store} (h : ds.length ≤ 1000) : made true ds st = .ok (.lst ds) st := made_ok (small_le h (by decide))
theorem keeps_app' {st c : Store} : Keeps st (st ++ c) := ⟨by simp, fun l hl => .inl (by rw [List.getElem?_append_left hl])⟩
/-- a new flat list goes out -/
theorem canon_loc {st x : Store} {l : Nat} {xs : List D} (h : flats xs = true) (hl : st.length ≤ l) (hx : (st ++ x)[l]? = some (.lst xs)) : canon st (.loc l) (st ++ x) = .ok (.loc st.length) (st ++ [.lst xs]) := by
  unfold canon
  rw [if_pos keeps_app']
  simp only [if_neg (Nat.not_lt.mpr hl), hx, cbelow, flats_below' st.length h, if_true]
  simp
theorem canon_back {st x : Store} {l : Nat} {a c b b' : Int} {d : D} (h : flat d = true) : canon (stb st l a c b) d (stb st l a c b' ++ x) = .ok d (stb st l a c b') := by
  rw [canon_flat ?_ h]
  · simp [stb]
  · have k := stb_keeps (st := st) (l := l) (a := a) (c := c) (b := b) (b' := b')
    refine keeps_trans k ⟨by simp, fun l hl => .inl (by rw [List.getElem?_append_left hl])⟩
theorem frz_loc {st : Store} {xs : List D} (h : flats xs = true) : freezeTop st.length (.ok (.loc st.length) (st ++ [.lst xs])) = .ok (.lst xs) st := by
  unfold freezeTop
  simp [flats_below' st.length h]
/-! what can be shown -/
theorem maps_same {f : D → D} : ∀ {xs : List D}, (∀ x ∈ xs, f x = x) → xs.map f = xs
  | [], _ => rfl
  | x :: xs, h => by rw [List.map_cons, h x (.head _), maps_same fun y hy => h y (.tail _ hy)]
theorem deep_flat {st : Store} : ∀ (n : Nat) {d : D}, flat d = true → deepN st n d = d
  | 0, d, _ => by cases d <;> rfl
  | n + 1, .tup xs, h => by
    unfold deepN
    rw [maps_same fun x hx => deep_flat n (flats_mem (by unfold flat at h; exact h) x hx)]
  | n + 1, .lst xs, h => by
    unfold deepN
    rw [maps_same fun x hx => deep_flat n (flats_mem (by unfold flat at h; exact h) x hx)]
  | n + 1, .loc l, h => by cases h
  | n + 1, .non, _ => rfl
  | n + 1, .bl _, _ => rfl
  | n + 1, .int _, _ => rfl
  | n + 1, .zr, _ => rfl
  | n + 1, .str _, _ => rfl
  | n + 1, .exc _, _ => rfl
  | n + 1, .odd, _ => rfl
structure Sh (k w : Nat) (x : D) : Prop where
  p : Mi.plain x = true
  f : flat x = true
  c : (toPy x).canLay0 = true
  s : (toPy x).showable = true
  i : (toPy x).intsShort 13 = true
  d : (toPy x).depth ≤ k
  v : (toPy x).weight ≤ w
theorem Sh.mono {k w k2 w2 : Nat} {d : D} (h : Sh k w d) (hk : k ≤ k2) (hw : w ≤ w2) : Sh k2 w2 d := ⟨h.p, h.f, h.c, h.s, h.i, Nat.le_trans h.d hk, Nat.le_trans h.v hw⟩
theorem shs {k w : Nat} : ∀ {xs : List D}, (∀ x ∈ xs, Sh k w x) → PyData.canLayAll0 (toPys xs) = true ∧ PyData.showableAll (toPys xs) = true ∧ PyData.intsShortAll 13 (toPys xs) = true ∧ PyData.depthAll (toPys xs) ≤ k ∧ PyData.weightAll (toPys xs) ≤ (w + 1) * xs.length
  | [], _ => ⟨rfl, rfl, rfl, Nat.zero_le _, Nat.zero_le _⟩
  | x :: xs, h => by
    obtain ⟨a1, a2, a3, a4, a5⟩ := shs (xs := xs) fun y hy => h y (.tail _ hy)
    have q := h x (.head _)
    have qd := q.d
    have qw := q.v
    unfold toPys PyData.canLayAll0 PyData.showableAll PyData.intsShortAll PyData.depthAll PyData.weightAll
    refine ⟨by rw [q.c, a1]; rfl, by rw [q.s, a2]; rfl, by rw [q.i, a3]; rfl, by omega, ?_⟩
    rw [List.length_cons, Nat.mul_add]
    omega
theorem sh_tup {k w m : Nat} {xs : List D} (h : ∀ x ∈ xs, Sh k w x) (hm : xs.length ≤ m) : Sh (k + 1) ((w + 1) * m) (.tup xs) := by
  obtain ⟨a1, a2, a3, a4, a5⟩ := shs h
  have pl : plains xs = true := plains_all fun x hx => (h x hx).p
  have fl : flats xs = true := mem_flats fun x hx => (h x hx).f
  refine ⟨by unfold Mi.plain; exact pl, by unfold flat; exact fl, ?_, ?_, ?_, ?_, ?_⟩
  · unfold toPy PyData.canLay0; exact a1
  · unfold toPy PyData.showable; exact a2
  · unfold toPy PyData.intsShort; exact a3
  · unfold toPy PyData.depth; omega
  · unfold toPy PyData.weight
    exact Nat.le_trans a5 (Nat.mul_le_mul (Nat.le_refl _) hm)
theorem sh_lst {k w m : Nat} {xs : List D} (h : ∀ x ∈ xs, Sh k w x) (hm : xs.length ≤ m) : Sh (k + 1) ((w + 1) * m) (.lst xs) := by
  obtain ⟨a1, a2, a3, a4, a5⟩ := shs h
  have pl : plains xs = true := plains_all fun x hx => (h x hx).p
  have fl : flats xs = true := mem_flats fun x hx => (h x hx).f
  refine ⟨by unfold Mi.plain; exact pl, by unfold flat; exact fl, ?_, ?_, ?_, ?_, ?_⟩
  · unfold toPy PyData.canLay0; exact a1
  · unfold toPy PyData.showable; exact a2
  · unfold toPy PyData.intsShort; exact a3
  · unfold toPy PyData.depth; omega
  · unfold toPy PyData.weight
    exact Nat.le_trans a5 (Nat.mul_le_mul (Nat.le_refl _) hm)
theorem sh_str {s : Str} (h : PyData.strOk s = true) (hl : s.length ≤ 13) : Sh 0 13 (.str s) := by
  refine ⟨rfl, rfl, ?_, rfl, rfl, Nat.le_refl _, ?_⟩
  · unfold toPy PyData.canLay0; exact h
  · unfold toPy PyData.weight; exact hl
theorem sh_word {w : Str} (h : Word w) : Sh 0 13 (.str w) := by
  refine sh_str ?_ (by have := h.six; omega)
  unfold PyData.strOk
  rw [← Array.all_toList, List.all_eq_true]
  intro c hc
  have := h.let_ c hc
  simp only [decide_eq_true_eq]
  omega
theorem sh_non : Sh 0 13 .non := ⟨rfl, rfl, rfl, rfl, rfl, Nat.le_refl _, Nat.zero_le _⟩
theorem lit_sh : ∀ w ∈ (["there", "none", "as", "look", "grip", "make", "box", "write", "free", "move", "link", "named", "worth", "sheet"] : List Str), PyData.strOk w = true ∧ w.length ≤ 13 := by decide +kernel
theorem sh_lit {w : Str} (h : w ∈ (["there", "none", "as", "look", "grip", "make", "box", "write", "free", "move", "link", "named", "worth", "sheet"] : List Str)) : Sh 0 13 (.str w) := sh_str (lit_sh w h).1 (lit_sh w h).2
theorem nat_sh : ∀ n, n < 1000 → PyData.showable (.int (n : Nat)) = true ∧ PyData.intsShort 13 (.int (n : Nat)) = true ∧ PyData.weight (.int (n : Nat)) ≤ 13 := by decide +kernel
theorem sh_nat {n : Nat} (h : n < 1000) : Sh 0 13 (.int (n : Nat)) := ⟨rfl, rfl, rfl, (nat_sh n h).1, (nat_sh n h).2.1, Nat.le_refl _, (nat_sh n h).2.2⟩
theorem neg_sh : PyData.showable (.int (-1)) = true ∧ PyData.intsShort 13 (.int (-1)) = true ∧ PyData.weight (.int (-1)) ≤ 13 := by decide +kernel
theorem sh_neg : Sh 0 13 (.int (-1)) := ⟨rfl, rfl, rfl, neg_sh.1, neg_sh.2.1, Nat.le_refl _, neg_sh.2.2⟩
def isSq : D → Bool
  | .tup _ => true
  | .lst _ => true
  | _ => false
/-- a tuple, a list that can be shown -/
theorem repr_sh {d d' : D} {k w : Nat} {s : Store} (e : deep s d = d') (h0 : isSq d' = true) (q : Sh k w d') (hk : k ≤ 60) (hw : w ≤ 1048576) : prim .repr true [d] s = .ok (.str (PyData.shown (toPy d'))) s := by
  have qd := q.d
  have qw := q.v
  have k : showOk d' = true := by
    have e1 : showOk d' = (isSq d' && (Mi.plain d' && (PyData.layable0 (toPy d') && (PyData.showable (toPy d') && (PyData.intsShort 13 (toPy d') && decide (PyData.depth (toPy d') ≤ 60)))))) := by
      unfold showOk isSq
      cases d' <;> rfl
    rw [e1, h0, q.p, q.s, q.i]
    unfold PyData.layable0
    rw [q.c]
    have p20 : (2 : Nat) ^ 20 = 1048576 := by decide
    simp only [Bool.true_and, Bool.and_true, Bool.and_eq_true, decide_eq_true_eq]
    omega
  have nb : ∀ b, d ≠ .bl b := fun b z => by
    subst z
    rw [show deep s (.bl b) = .bl b from rfl] at e
    rw [← e] at h0; cases h0
  have go : prim .repr true [d] s = if showOk (deep s d) then R.ok (D.str (PyData.shown (toPy (deep s d)))) s else R.fault := by
    cases d with
    | bl b => exact absurd rfl (nb b)
    | _ => rfl
  rw [go, e, if_pos k]
theorem fm_le {β : Type} {f : Nat → List β} {b : Nat} : ∀ {j : Nat}, (∀ k, k < j → (f k).length ≤ b) → ((List.range j).flatMap f).length ≤ b * j
  | 0, _ => by simp
  | j + 1, h => by
    have := fm_le (f := f) (b := b) (j := j) fun k hk => h k (by omega)
    have := h j (by omega)
    rw [List.range_succ, List.flatMap_append, List.length_append, Nat.mul_add, Nat.mul_one]
    simp only [List.flatMap_cons, List.flatMap_nil, List.append_nil]
    omega
theorem fm_succ {β : Type} {f : Nat → List β} {j : Nat} : (List.range (j + 1)).flatMap f = (List.range j).flatMap f ++ f j := by
  rw [List.range_succ, List.flatMap_append]; simp
theorem flt_succ {q : Nat → Bool} {j : Nat} : (List.range (j + 1)).filter q = (List.range j).filter q ++ (if q j then [j] else []) := by
  rw [List.range_succ, List.filter_append]
  cases h : q j <;> simp [h]
end Pr
/-! DrI: rows of pairs by unlike texts, sorted; has, put. -/
namespace Sl
open PySem PySem.Spec Mi Dr Pr
abbrev SP := Str × D
def pD (p : SP) : D := .tup [.str p.1, p.2]
def leS (a b : SP) : Bool := decide (a.1.cps.toList ≤ b.1.cps.toList)
def srt (ps : List SP) : List SP := ps.mergeSort leS
theorem leS_trans : ∀ a b c : SP, leS a b = true → leS b c = true → leS a c = true := fun a b c h1 h2 => decide_eq_true (List.le_trans (of_decide_eq_true h1) (of_decide_eq_true h2))
theorem leS_total : ∀ a b : SP, (leS a b || leS b a) = true := fun a b => by
  unfold leS
  rcases List.le_total a.1.cps.toList b.1.cps.toList with h | h <;> simp [h]
theorem str_eq {a b : Str} (h : a.cps.toList = b.cps.toList) : a = b := by
  cases a; cases b
  simp only [Str.mk.injEq]
  exact Array.toList_inj.mp h
/-- no text twice -/
def One (ps : List SP) : Prop := (ps.map (·.1)).Nodup
theorem one_eq : ∀ {ps : List SP}, One ps → ∀ {a b : SP}, a ∈ ps → b ∈ ps → a.1 = b.1 → a = b
  | [], _, _, _, h, _, _ => by cases h
  | p :: ps, h, a, b, ha, hb, e => by
    unfold One at h
    rw [List.map_cons, List.nodup_cons] at h
    rcases List.mem_cons.mp ha with rfl | ha
    · rcases List.mem_cons.mp hb with rfl | hb
      · rfl
      · exact absurd (List.mem_map.mpr ⟨b, hb, e.symm⟩) h.1
    · rcases List.mem_cons.mp hb with z | hb
      · rw [z] at e
        exact absurd (List.mem_map.mpr ⟨a, ha, e⟩) h.1
      · exact one_eq h.2 ha hb e
theorem One.perm {ps qs : List SP} (h : One ps) (p : ps.Perm qs) : One qs := (p.map _).nodup_iff.mp h
theorem srt_p (ps : List SP) : (srt ps).Perm ps := List.mergeSort_perm _ _
theorem srt_eq {ps qs : List SP} (h : ps.Perm qs) (o : One ps) : srt ps = srt qs := by
  refine List.Perm.eq_of_pairwise (le := fun a b : SP => leS a b = true) (fun a b ha hb h1 h2 => ?_) (List.pairwise_mergeSort leS_trans leS_total _) (List.pairwise_mergeSort leS_trans leS_total _) (((srt_p ps).trans h).trans (srt_p qs).symm)
  have e1 := List.le_antisymm (of_decide_eq_true h1) (of_decide_eq_true h2)
  exact one_eq o ((srt_p ps).mem_iff.mp ha) (h.mem_iff.mpr ((srt_p qs).mem_iff.mp hb)) (str_eq e1)
theorem sortH_map (ps : List SP) : sortH (ps.map pD) = (srt ps).map pD := by
  unfold sortH srt
  refine (List.map_mergeSort (f := pD) (r := leS) (s := PySem.W.dataLe false fun d => .str ((headD d).getD "")) (l := ps) (fun a _ b _ => ?_)).symm
  rw [PySem.W.dataLe_str]
  rfl
theorem le_self (d : D) : PySem.W.dataLe false toPy d d = true := by
  show (!PySem.W.dataLt _ _) = true
  rw [Bool.not_eq_true']
  exact (PyProof.Rows.listOrd PyProof.Rows.itemOrd).irrefl _
theorem le_pD {a b : SP} (h : a.1 ≠ b.1) : PySem.W.dataLe false toPy (pD a) (pD b) = leS a b := by
  show (!PyProof.Rows.lexLt PyProof.Rows.itemOrd (PySem.W.keyToksAll [.str b.1, toPy b.2]) (PySem.W.keyToksAll [.str a.1, toPy a.2])) = _
  rw [PySem.W.dataLt_cons (by rfl), if_neg (by
    intro e
    have : (b.1 == a.1) = true := e
    exact h (eq_of_beq this).symm), PySem.W.dataLt_str, PySem.W.not_lt_str]
  rfl
theorem sortD_map {ps : List SP} (o : One ps) : sortD (ps.map pD) = (srt ps).map pD := by
  unfold sortD srt
  refine (List.map_mergeSort (f := pD) (r := leS) (s := PySem.W.dataLe false toPy) (l := ps) (fun a ha b hb => ?_)).symm
  by_cases e : a.1 = b.1
  · cases one_eq o ha hb e
    rw [le_self]
    unfold leS
    simp
  · rw [le_pD e]
/-! what stands at a text -/
def valS (ps : List SP) (k : Str) : Option D := (ps.find? fun p => decide (p.1 = k)).map (·.2)
def putS (ps : List SP) (k : Str) (v : D) : List SP := if (ps.any fun p => decide (p.1 = k)) = true then ps.map (fun p => if p.1 = k then (p.1, v) else p) else ps ++ [(k, v)]
def butS (ps : List SP) (k : Str) : List SP := ps.filter fun p => !decide (p.1 = k)
def dkS (ps : List SP) : List (L2.Key × D) := ps.map fun p => (.inr p.1, p.2)
theorem valS_mem : ∀ {ps : List SP} {k : Str} {v : D}, One ps → (valS ps k = some v ↔ (k, v) ∈ ps)
  | [], k, v, _ => by simp [valS]
  | p :: ps, k, v, o => by
    have o2 : One ps := (List.nodup_cons.mp o).2
    by_cases e : p.1 = k
    · have e1 : valS (p :: ps) k = some p.2 := by simp [valS, e]
      rw [e1]
      refine ⟨fun h => ?_, fun h => ?_⟩
      · cases h; rw [← e]; exact .head _
      · have := one_eq o (.head _) h e
        rw [this]
    · have e1 : valS (p :: ps) k = valS ps k := by simp [valS, e]
      rw [e1, valS_mem o2, List.mem_cons]
      refine ⟨.inr, fun h => h.elim (fun z => ?_) id⟩
      rw [← z] at e
      exact absurd rfl e
theorem valS_perm {ps qs : List SP} (o : One ps) (h : ps.Perm qs) (k : Str) : valS ps k = valS qs k := by
  have o2 := o.perm h
  cases e : valS ps k with
  | some v => exact ((valS_mem o2).mpr (h.mem_iff.mp ((valS_mem o).mp e))).symm
  | none =>
    cases e2 : valS qs k with
    | none => rfl
    | some v =>
      have := (valS_mem o).mpr (h.mem_iff.mpr ((valS_mem o2).mp e2))
      rw [e] at this; cases this
theorem find_dk (ps : List SP) (k : Str) : dval (dkS ps) (.inr k) = valS ps k := by
  unfold dval valS dkS
  rw [List.find?_map, Option.map_map]
  have e : ((fun kv : L2.Key × D => decide (kv.1 = Sum.inr k)) ∘ fun p : SP => ((Sum.inr p.1 : L2.Key), p.2)) = fun p : SP => decide (p.1 = k) := by
    funext p
    simp
  rw [e]
  rfl
theorem put_dk (ps : List SP) (k : Str) (v : D) : dput (dkS ps) (.inr k) v = dkS (putS ps k v) := by
  unfold dput putS dkS
  have e : ((ps.map fun p => ((Sum.inr p.1 : L2.Key), p.2)).any fun kv => decide (kv.1 = Sum.inr k)) = ps.any fun p => decide (p.1 = k) := by
    rw [List.any_map]
    congr 1
    funext p
    simp
  rw [e]
  split
  · rw [List.map_map, List.map_map]
    refine List.map_congr_left fun p _ => ?_
    by_cases e : p.1 = k <;> simp [e]
  · rw [List.map_append]; rfl
theorem it_dk (ps : List SP) : (dkS ps).map itD = ps.map pD := by
  unfold dkS
  rw [List.map_map]
  rfl
theorem heads_pD (ps : List SP) : (ps.map pD).filterMap headD = ps.map (·.1) := by
  rw [List.filterMap_map]
  induction ps with
  | nil => rfl
  | cons p ps ih => rw [List.filterMap_cons, List.map_cons, ← ih]; rfl
theorem headsOk_pD {ps : List SP} (o : One ps) (h : ps.length ≤ 1000) : headsOk (ps.map pD) = true := by
  unfold headsOk
  rw [heads_pD]
  simp only [Bool.and_eq_true, decide_eq_true_eq, List.all_eq_true]
  refine ⟨⟨fun d hd => ?_, o⟩, by rw [List.length_map]; exact small_le h (by decide)⟩
  obtain ⟨p, _, rfl⟩ := List.mem_map.mp hd
  rfl
theorem putS_keys : ∀ (ps : List SP) (k : Str) (v : D), (ps.map fun p => if p.1 = k then (p.1, v) else p).map (·.1) = ps.map (·.1) := fun ps k v => by
  rw [List.map_map]
  refine List.map_congr_left fun p _ => ?_
  by_cases e : p.1 = k <;> simp [e]
theorem butS_one {ps : List SP} (o : One ps) (k : Str) (v : D) : One (butS ps k ++ [(k, v)]) := by
  unfold One butS
  rw [List.map_append, List.nodup_append]
  refine ⟨o.sublist (List.filter_sublist.map _), by simp, fun a ha b hb => ?_⟩
  obtain ⟨p, hp, rfl⟩ := List.mem_map.mp ha
  have := (List.mem_filter.mp hp).2
  simp at hb this
  rw [hb]; exact this
theorem putS_perm : ∀ {ps : List SP} (o : One ps) (k : Str) (v : D), (putS ps k v).Perm (butS ps k ++ [(k, v)])
  | [], _, k, v => by simp [putS, butS]
  | p :: ps, o, k, v => by
    have o2 : One ps := (List.nodup_cons.mp o).2
    by_cases e : p.1 = k
    · have nk : ∀ q ∈ ps, ¬ q.1 = k := fun q hq z => (List.nodup_cons.mp o).1 (List.mem_map.mpr ⟨q, hq, z.trans e.symm⟩)
      have e1 : putS (p :: ps) k v = (k, v) :: ps := by
        unfold putS
        rw [if_pos (by simp [e]), List.map_cons, if_pos e, e]
        congr 1
        have : ps.map (fun q => if q.1 = k then (q.1, v) else q) = ps.map id := List.map_congr_left fun q hq => if_neg (nk q hq)
        rw [this, List.map_id]
      have e2 : butS (p :: ps) k = ps := by
        unfold butS
        rw [List.filter_cons, if_neg (by simp [e])]
        exact List.filter_eq_self.mpr fun q hq => by simp [nk q hq]
      rw [e1, e2]
      exact (List.perm_append_singleton _ _).symm
    · have e1 : putS (p :: ps) k v = p :: putS ps k v := by
        unfold putS
        simp only [List.any_cons, decide_eq_false e, Bool.false_or, List.map_cons, if_neg e]
        split <;> rfl
      have e2 : butS (p :: ps) k = p :: butS ps k := by
        unfold butS
        rw [List.filter_cons, if_pos (by simp [e])]
      rw [e1, e2]
      exact (putS_perm o2 k v).cons p
theorem putS_one {ps : List SP} (o : One ps) (k : Str) (v : D) : One (putS ps k v) := (butS_one o k v).perm (putS_perm o k v).symm
theorem butS_perm {ps qs : List SP} (h : ps.Perm qs) (k : Str) : (butS ps k).Perm (butS qs k) := h.filter _
/-- a slot put into the sorted row -/
theorem srt_put {ps : List SP} (o : One ps) (k : Str) (v : D) : srt (butS (srt ps) k ++ [(k, v)]) = srt (putS ps k v) :=
  srt_eq (((butS_perm (srt_p ps) k).append_right _).trans (putS_perm o k v).symm) (butS_one (o.perm (srt_p ps).symm) k v)
theorem putS_len {ps : List SP} (k : Str) (v : D) : (putS ps k v).length ≤ ps.length + 1 := by
  unfold putS
  split
  · simp
  · simp
theorem putS_mem {ps : List SP} {k : Str} {v : D} {p : SP} (h : p ∈ putS ps k v) : p ∈ ps ∨ p = (k, v) := by
  unfold putS at h
  split at h
  · obtain ⟨q, hq, e⟩ := List.mem_map.mp h
    split at e
    · next e1 => rw [← e, e1]; exact .inr rfl
    · rw [← e]; exact .inl hq
  · rcases List.mem_append.mp h with h | h
    · exact .inl h
    · simp at h; exact .inr h
mutual
theorem eqv_self : ∀ d : D, Mi.plain d = true → eqv d d = true
  | .non, _ => rfl
  | .bl b, _ => by simp [eqv]
  | .int i, _ => by simp [eqv]
  | .zr, _ => by simp [eqv]
  | .str s, _ => by simp [eqv]
  | .tup xs, h => by unfold eqv; exact eqvs_self xs (by unfold Mi.plain at h; exact h)
  | .lst xs, h => by unfold eqv; exact eqvs_self xs (by unfold Mi.plain at h; exact h)
  | .exc _, h => by cases h
  | .loc _, h => by cases h
  | .odd, h => by cases h
theorem eqvs_self : ∀ xs : List D, plains xs = true → eqvs xs xs = true
  | [], _ => rfl
  | x :: xs, h => by
    simp only [plains, Bool.and_eq_true] at h
    unfold eqvs
    rw [eqv_self x h.1, eqvs_self xs h.2]; rfl
end
/-- what a slot may have -/
structure Sn (v : D) : Prop where
  p : Mi.plain v = true
  f : Mi.flat v = true
  d : dep v ≤ 5
theorem sn_non : Sn .non := ⟨rfl, rfl, Nat.zero_le _⟩
theorem plains_mem {xs : List D} (h : ∀ x ∈ xs, Mi.plain x = true) : plains xs = true := plains_all h
theorem deps_le {k : Nat} : ∀ {xs : List D}, (∀ x ∈ xs, dep x ≤ k) → deps xs ≤ k
  | [], _ => Nat.zero_le _
  | x :: xs, h => by
    unfold deps
    exact Nat.max_le.mpr ⟨h x (.head _), deps_le fun y hy => h y (.tail _ hy)⟩
theorem ne_self {v : D} {st : Store} (h : Mi.plain v = true) (hd : dep v ≤ 60) (hl : look st v = v) : compop .ne v v st = .ok (.bl false) st := by
  have c : comparable v v = true := by
    unfold comparable
    simp only [h, Bool.and_self, Bool.true_and, decide_eq_true_eq]
    omega
  simp only [compop, hl, if_pos c, eqv_self v h, Bool.not_true]
theorem look_flat {v : D} {st : Store} (h : Mi.flat v = true) : look st v = v := by
  cases v <;> first | rfl | cases h
def hbody : List S := [.iff (.cmp .eq (.var 2) (.var 1)) [.ret (.var 3)] []]
theorem pD_flat {p : SP} (h : Sn p.2) : Mi.flat (pD p) = true := by
  show (true && (Mi.flat p.2 && true)) = true
  rw [h.f]; rfl
theorem pD_plain {p : SP} (h : Sn p.2) : Mi.plain (pD p) = true := by
  show (true && (Mi.plain p.2 && true)) = true
  rw [h.p]; rfl
theorem pD_dep {p : SP} (h : Sn p.2) : dep (pD p) ≤ 6 := by
  show deps [.str p.1, p.2] + 1 ≤ 6
  have := deps_le (k := 5) (xs := [.str p.1, p.2]) fun x hx => by
    rcases List.mem_cons.mp hx with rfl | hx
    · exact Nat.zero_le _
    · simp at hx; subst hx; exact h.d
  omega
section
variable {T : List Fn} {n : Nat} {st : Store}
theorem has_loop {t : D} {k : Str} {ck : Store → Prop} (hc : ck st) {cf : Nat → List D → Store → Mi.R D} : ∀ (qs : List SP) (e2 e3 : Option D),
    (∃ v, valS qs k = some v ∧ loopF ck (fstep cf [2, 3] false hbody) (qs.map pD) [some t, some (.str k), e2, e3] st = .rt v st) ∨
    (valS qs k = none ∧ ∃ e2' e3', loopF ck (fstep cf [2, 3] false hbody) (qs.map pD) [some t, some (.str k), e2, e3] st = .nx [some t, some (.str k), e2', e3'] st)
  | [], e2, e3 => .inr ⟨rfl, e2, e3, by unfold loopF; rw [List.map_nil]; simp only [if_pos hc]⟩
  | p :: qs, e2, e3 => by
    have turn : fstep cf [2, 3] false hbody (pD p) [some t, some (.str k), e2, e3] st = if p.1 = k then .rt p.2 st else .nx [some t, some (.str k), some (.str p.1), some p.2] st := by
      unfold fstep hbody pD
      simp only [bindT, look, Bool.false_eq_true, if_false, put, List.set_cons_zero, List.set_cons_succ]
      rw [exs_cons, ex]
      simp only [ev, List.getElem?_cons_zero, List.getElem?_cons_succ, R.bind_ok, eq_str, asBool_ok, R.toF_ok]
      by_cases e : p.1 = k
      · rw [if_pos e, if_pos (by simp [e])]
        simp only [exs, ex, ev, List.getElem?_cons_zero, List.getElem?_cons_succ, R.toF_ok, F.thn_rt]
      · rw [if_neg e, if_neg (by simp [e])]
        simp only [exs, F.thn_nx]
    rw [List.map_cons]
    unfold loopF
    rw [if_pos hc, turn]
    by_cases e : p.1 = k
    · rw [if_pos e]
      exact .inl ⟨p.2, by simp [valS, e], rfl⟩
    · rw [if_neg e]
      have ih := has_loop (t := t) (k := k) hc (cf := cf) qs (some (.str p.1)) (some p.2)
      have e1 : valS (p :: qs) k = valS qs k := by simp [valS, e]
      rw [e1]
      exact ih
def hasB : List S := [.forr [2, 3] false (.iSeq (.var 0)) hbody, .ret (.cst .non)]
theorem has_ok {ix : Nat} (H : T[ix]? = some ⟨"has", 2, 4, [], hasB⟩) {qs : List SP} {k : Str} (hv : ∀ p ∈ qs, Sn p.2) : callN T (n + 1) ix [.tup (qs.map pD), .str k] st = .ok ((valS qs k).getD .non) st := by
  rw [callN_s H rfl]
  show leave st (exs (callN T n) hasB [some (.tup (qs.map pD)), some (.str k), none, none] st) = _
  rw [hasB, exs_cons, ex_for]
  simp only [evI, ev, List.getElem?_cons_zero, R.bind_ok, walks, R.toF_ok]
  rcases has_loop (t := .tup (qs.map pD)) (k := k) (ck := fun s => stands s (qs.map pD) none) (st := st) trivial (cf := callN T n) qs none none with ⟨v, e, h⟩ | ⟨e, e2, e3, h⟩
  · rw [h, F.thn_rt, leave_rt, e]
    refine canon_flat0 ?_
    have : ∃ p ∈ qs, p.2 = v := by
      unfold valS at e
      obtain ⟨p, hp, rfl⟩ := Option.map_eq_some_iff.mp e
      exact ⟨p, List.mem_of_find?_eq_some hp, rfl⟩
    obtain ⟨p, hp, rfl⟩ := this
    exact (hv p hp).f
  · rw [h, F.thn_nx, e]
    simp only [exs, ex, ev, R.toF_ok, F.thn_rt, leave_rt]
    exact canon_flat0 rfl
theorem sorted_ok {ps : List SP} (o : One ps) (h : ps.length ≤ 1000) {st : Store} : prim .sorted true [.lst (ps.map pD)] st = .ok (.lst ((srt ps).map pD)) st := by
  have hl : ((srt ps).map pD).length ≤ 1000 := by rw [List.length_map, (srt_p ps).length_eq]; exact h
  simp only [prim, look_lst']
  by_cases e : sortOk (ps.map pD) = true
  · rw [if_pos e, sortD_map o, made_old' hl]
  · rw [if_neg e, if_pos (headsOk_pD o h), sortH_map, made_old' hl]
def pcomp : E := .comp true [3] [3] true (.iSeq (.var 0)) [(.cmp .ne (.idx (.var 3) (.cst (.int 0))) (.var 1))] (.var 3)
theorem ne_str {x y : Str} {st : Store} : compop .ne (.str x) (.str y) st = .ok (.bl (!(x == y))) st := rfl
theorem pcomp_ok {qs : List SP} {k : Str} {v : D} (hl : qs.length ≤ 100) {cf : Nat → List D → Store → Mi.R D} : ev cf pcomp [some (.tup (qs.map pD)), some (.str k), some v, none] st = .ok (.lst ((butS qs k).map pD)) st := by
  unfold pcomp
  rw [ev_comp]
  simp only [evI, ev, List.getElem?_cons_zero, R.bind_ok, walks]
  rw [loopC_flt (ck := fun s => stands s (qs.map pD) none) trivial pD (fun p => !decide (p.1 = k)) pD (fun p hp => by
    unfold cstep pD
    simp only [bindT, if_true, put, Mi.wipe, List.set_cons_zero, List.set_cons_succ]
    have ix : index (.tup [.str p.1, p.2]) (.int 0) st = .ok (.str p.1) st := rfl
    simp only [evc, ev, List.getElem?_cons_zero, List.getElem?_cons_succ, R.bind_ok, R.calm_ok, ix, ne_str, asBool_ok]
    by_cases e : p.1 = k <;> simp [e])]
  rw [R.bind_ok]
  exact made_old' (by
    rw [List.length_map]
    have : (butS qs k).length ≤ qs.length := List.length_filter_le _ _
    exact Nat.le_trans this (Nat.le_trans hl (by decide)))
def putB : List S := [.ret (.prm .tuple true [(.prm .sorted true [(.bin .add true pcomp (.lst true [(.tup [(.var 1), (.var 2)])]))])])]
theorem put_ok {ix : Nat} (H : T[ix]? = some ⟨"put", 3, 4, [], putB⟩) {ps : List SP} {k : Str} {v : D} (o : One ps) (hl : ps.length ≤ 90) (hv : ∀ p ∈ ps, Sn p.2) (v0 : Sn v) :
    callN T (n + 1) ix [.tup ((srt ps).map pD), .str k, v] st = .ok (.tup ((srt (putS ps k v)).map pD)) st := by
  rw [callN_s H rfl]
  show leave st (exs (callN T n) putB [some (.tup ((srt ps).map pD)), some (.str k), some v, none] st) = _
  have lp : (srt ps).length = ps.length := (srt_p ps).length_eq
  have hb : (butS (srt ps) k).length ≤ 90 := by
    have : (butS (srt ps) k).length ≤ (srt ps).length := List.length_filter_le _ _
    omega
  have x1 : ev (callN T n) pcomp [some (.tup ((srt ps).map pD)), some (.str k), some v, none] st = .ok (.lst ((butS (srt ps) k).map pD)) st := pcomp_ok (by omega)
  have x2 : ev (callN T n) (.lst true [(.tup [(.var 1), (.var 2)])]) [some (.tup ((srt ps).map pD)), some (.str k), some v, none] st = .ok (.lst [pD (k, v)]) st := by
    simp only [ev, evs, List.getElem?_cons_zero, List.getElem?_cons_succ, R.bind_ok]
    rw [if_pos (small_le (b := 16000000) (by show 2 ≤ 16000000; decide) (by decide))]
    exact made_old' (by show 1 ≤ 1000; decide)
  have x3 : binop .add true (.lst ((butS (srt ps) k).map pD)) (.lst [pD (k, v)]) st = .ok (.lst ((butS (srt ps) k ++ [(k, v)]).map pD)) st := by
    simp only [binop, look_lst']
    rw [List.map_append]
    exact made_old' (by simp; omega)
  have x4 := sorted_ok (ps := butS (srt ps) k ++ [(k, v)]) (st := st) (butS_one (o.perm (srt_p ps).symm) k v) (by simp; omega)
  rw [srt_put o] at x4
  have x5 : ev (callN T n) (.prm .tuple true [(.prm .sorted true [(.bin .add true pcomp (.lst true [(.tup [(.var 1), (.var 2)])]))])]) [some (.tup ((srt ps).map pD)), some (.str k), some v, none] st = .ok (.tup ((srt (putS ps k v)).map pD)) st := by
    rw [ev, evs, ev, evs, ev, x1, R.bind_ok, x2, R.bind_ok, x3, R.bind_ok, evs, R.bind_ok, R.bind_ok, x4, R.bind_ok, evs, R.bind_ok, R.bind_ok]
    rfl
  rw [putB, exs_cons, ex, x5, R.toF_ok, F.thn_rt, leave_rt]
  refine canon_flat0 ?_
  show flats _ = true
  refine mem_flats fun d hd => ?_
  obtain ⟨p, hp, rfl⟩ := List.mem_map.mp hd
  refine pD_flat ?_
  rcases putS_mem ((srt_p _).mem_iff.mp hp) with h | rfl
  · exact hv p h
  · exact v0
end
section
variable {T : List Fn} {n : Nat} {st : Store}
theorem valS_sn {ps : List SP} {k : Str} (hv : ∀ p ∈ ps, Sn p.2) : Sn ((valS ps k).getD .non) := by
  cases e : valS ps k with
  | none => exact sn_non
  | some v =>
    unfold valS at e
    obtain ⟨p, hp, rfl⟩ := Option.map_eq_some_iff.mp e
    exact hv p (List.mem_of_find?_eq_some hp)
theorem dct_at {ps : List SP} {ld : Nat} (hd : st[ld]? = some (.dk (dkS ps))) : dctAt st (.loc ld) = some (ld, dkS ps) := by
  simp only [dctAt, hd]
theorem get_ok {ps : List SP} {ld : Nat} (hd : st[ld]? = some (.dk (dkS ps))) (w : Str) : meth .get true (.loc ld) [.str w, .non] st = .ok ((valS ps w).getD .non) st := by
  unfold meth mGet
  rw [dct_at hd]
  simp only [keyD, find_dk]
theorem rcv_get {ps : List SP} {ld : Nat} (hd : st[ld]? = some (.dk (dkS ps))) : recv .get (.loc ld) st = true := by
  show ((dctAt st (.loc ld)).isSome || _) = true
  rw [dct_at hd]; rfl
end
end Sl
/-! DrJ: rooms drawn, a dict of marks, boxes and sheets. -/
namespace Sl
open PySem PySem.Spec Mi Dr Pr
def mkK (j : Int) : List L2.Key := [.inl (-1), .inl j]
def mkD (j : Int) : D := .tup [.int (-1), .int j]
theorem pk_mk (j : Int) : pkD (mkD j) = some (mkK j) := rfl
theorem tk_mk (j : Int) : tkD (mkK j) = mkD j := rfl
theorem mk_inj {i j : Int} (h : mkK i = mkK j) : i = j := by
  unfold mkK at h
  simp at h
  exact h
/-- a mark that is there -/
def Hk (kvs : List (List L2.Key × D)) (j : Int) : Prop := ∃ d, (mkK j, d) ∈ kvs
theorem hk_val {kvs : List (List L2.Key × D)} {j : Int} (h : Hk kvs j) : ∃ d, dval kvs (mkK j) = some d ∧ (mkK j, d) ∈ kvs := by
  obtain ⟨d, hd⟩ := h
  unfold dval
  cases e : kvs.find? fun kv => decide (kv.1 = mkK j) with
  | none =>
    have := List.find?_eq_none.mp e _ hd
    simp at this
  | some p =>
    have h1 := List.find?_some e
    have h2 := List.mem_of_find?_eq_some e
    simp at h1
    refine ⟨p.2, rfl, ?_⟩
    rw [← h1]; exact h2
theorem dput_mem {κ : Type} [DecidableEq κ] {kvs : List (κ × D)} {k : κ} {v : D} {p : κ × D} (h : p ∈ dput kvs k v) : p ∈ kvs ∨ p = (k, v) := by
  unfold dput at h
  split at h
  · obtain ⟨q, hq, e⟩ := List.mem_map.mp h
    split at e
    · next e1 => rw [← e, e1]; exact .inr rfl
    · rw [← e]; exact .inl hq
  · rcases List.mem_append.mp h with h | h
    · exact .inl h
    · simp at h; exact .inr h
theorem dput_len {κ : Type} [DecidableEq κ] {kvs : List (κ × D)} {k : κ} {v : D} : (dput kvs k v).length ≤ kvs.length + 1 := by
  unfold dput
  split <;> simp
theorem hk_put {kvs : List (List L2.Key × D)} {i j : Int} {v : D} (h : Hk kvs i) : Hk (dput kvs (mkK j) v) i := by
  obtain ⟨d, hd⟩ := h
  unfold Hk dput
  split
  · by_cases e : i = j
    · subst e
      exact ⟨v, List.mem_map.mpr ⟨_, hd, by simp⟩⟩
    · exact ⟨d, List.mem_map.mpr ⟨_, hd, if_neg fun z => e (mk_inj z)⟩⟩
  · exact ⟨d, List.mem_append_left _ hd⟩
theorem hk_new {kvs : List (List L2.Key × D)} {j : Int} {v : D} : Hk (dput kvs (mkK j) v) j := by
  unfold Hk dput
  split
  · next h =>
    obtain ⟨p, hp, e⟩ := List.any_eq_true.mp h
    simp at e
    exact ⟨v, List.mem_map.mpr ⟨p, hp, by rw [if_pos e, e]⟩⟩
  · exact ⟨v, List.mem_append_right _ (by simp)⟩
/-- a box's names -/
structure Nm (B : Nat) (kvs : List (List L2.Key × D)) (nm : List SP) : Prop where
  n : nm.length ≤ B
  o : One nm
  m : ∀ q ∈ nm, ∃ j, q.2 = mkD j ∧ Hk kvs j
theorem Nm.mono {B B' : Nat} {kvs kvs' : List (List L2.Key × D)} {nm : List SP} (h : Nm B kvs nm) (hB : B ≤ B') (hk : ∀ j, Hk kvs j → Hk kvs' j) : Nm B' kvs' nm :=
  ⟨Nat.le_trans h.n hB, h.o, fun q hq => let ⟨j, e, k⟩ := h.m q hq; ⟨j, e, hk j k⟩⟩
theorem nm_nil {B : Nat} {kvs : List (List L2.Key × D)} : Nm B kvs [] := ⟨Nat.zero_le _, List.nodup_nil, fun _ h => by cases h⟩
/-- an entry: a box below a hundred, a sheet above -/
def Ent (base B : Nat) (kvs : List (List L2.Key × D)) (x : List Cell) (p : List L2.Key × D) : Prop := ∃ j : Int, p.1 = mkK j ∧ ((j < 100 ∧ ∃ (i : Nat) (nm : List SP), p.2 = .loc (base + i) ∧ x[i]? = some (.dk (dkS nm)) ∧ Nm B kvs nm) ∨ (100 ≤ j ∧ ∃ v : Int, p.2 = .int v))
structure Rm (base B : Nat) (x : List Cell) (kvs : List (List L2.Key × D)) : Prop where
  c : x[1]? = some (.dt kvs)
  n : kvs.length ≤ B
  r : Hk kvs 0
  e : ∀ p ∈ kvs, Ent base B kvs x p
theorem Ent.mono {base B B' : Nat} {kvs kvs' : List (List L2.Key × D)} {x x' : List Cell} {p : List L2.Key × D} (h : Ent base B kvs x p) (hx : ∀ (i : Nat) (nm : List SP), x[i]? = some (Cell.dk (dkS nm)) → Nm B kvs nm → ∃ nm' : List SP, x'[i]? = some (Cell.dk (dkS nm')) ∧ Nm B' kvs' nm') : Ent base B' kvs' x' p := by
  obtain ⟨j, e, h⟩ := h
  refine ⟨j, e, ?_⟩
  rcases h with ⟨h1, i, nm, h2, h3, h4⟩ | h
  · obtain ⟨nm', h5, h6⟩ := hx i nm h3 h4
    exact .inl ⟨h1, i, nm', h2, h5, h6⟩
  · exact .inr h
theorem Rm.lt {base B : Nat} {x : List Cell} {kvs : List (List L2.Key × D)} (h : Rm base B x kvs) : 1 < x.length := (List.getElem?_eq_some_iff.mp h.c).1
theorem Rm.pos {base B : Nat} {x : List Cell} {kvs : List (List L2.Key × D)} (h : Rm base B x kvs) : 0 < kvs.length := by
  obtain ⟨d, hd⟩ := h.r
  exact List.length_pos_of_mem hd
theorem Rm.mono {base B B' : Nat} {x : List Cell} {kvs : List (List L2.Key × D)} (h : Rm base B x kvs) (hB : B ≤ B') : Rm base B' x kvs :=
  ⟨h.c, Nat.le_trans h.n hB, h.r, fun p hp => (h.e p hp).mono fun i nm e z => ⟨nm, e, z.mono hB fun _ k => k⟩⟩
/-- a new box -/
theorem Rm.box {base B : Nat} {x : List Cell} {kvs : List (List L2.Key × D)} (h : Rm base B x kvs) {j : Int} (hj : j < 100) : Rm base (B + 1) ((x ++ [Cell.dk []]).set 1 (.dt (dput kvs (mkK j) (.loc (base + x.length))))) (dput kvs (mkK j) (.loc (base + x.length))) := by
  have hl := h.lt
  have other : ∀ (i : Nat) (nm : List (L2.Key × D)), (x ++ [Cell.dk []])[i]? = some (Cell.dk nm) → ((x ++ [Cell.dk []]).set 1 (.dt (dput kvs (mkK j) (.loc (base + x.length)))))[i]? = some (.dk nm) := fun i nm e => by
    by_cases hi : i = 1
    · subst hi
      rw [List.getElem?_append_left hl, h.c] at e
      cases e
    · rw [List.getElem?_set_ne (Ne.symm hi)]; exact e
  refine ⟨by rw [List.getElem?_set_self (by simp; omega)], by have := dput_len (kvs := kvs) (k := mkK j) (v := .loc (base + x.length)); have := h.n; omega, hk_put h.r, fun p hp => ?_⟩
  rcases dput_mem hp with hp | rfl
  · refine (h.e p hp).mono fun i nm e z => ⟨nm, other i _ ?_, z.mono (Nat.le_succ _) fun _ k => hk_put k⟩
    rw [List.getElem?_append_left (List.getElem?_eq_some_iff.mp e).1]; exact e
  · exact ⟨j, rfl, .inl ⟨hj, x.length, [], rfl, other _ _ (by simp [dkS]), nm_nil⟩⟩
/-- a new sheet -/
theorem Rm.sheet {base B : Nat} {x : List Cell} {kvs : List (List L2.Key × D)} (h : Rm base B x kvs) {j v : Int} (hj : 100 ≤ j) : Rm base (B + 1) (x.set 1 (.dt (dput kvs (mkK j) (.int v)))) (dput kvs (mkK j) (.int v)) := by
  have hl := h.lt
  have other : ∀ (i : Nat) (nm : List (L2.Key × D)), x[i]? = some (Cell.dk nm) → (x.set 1 (.dt (dput kvs (mkK j) (.int v))))[i]? = some (.dk nm) := fun i nm e => by
    by_cases hi : i = 1
    · subst hi
      rw [h.c] at e
      cases e
    · rw [List.getElem?_set_ne (Ne.symm hi)]; exact e
  refine ⟨by rw [List.getElem?_set_self hl], by have := dput_len (kvs := kvs) (k := mkK j) (v := .int v); have := h.n; omega, hk_put h.r, fun p hp => ?_⟩
  rcases dput_mem hp with hp | rfl
  · exact (h.e p hp).mono fun i nm e z => ⟨nm, other i _ e, z.mono (Nat.le_succ _) fun _ k => hk_put k⟩
  · exact ⟨j, rfl, .inr ⟨hj, v, rfl⟩⟩
/-- a name put into a box -/
theorem Rm.name {base B : Nat} {x : List Cell} {kvs : List (List L2.Key × D)} (h : Rm base B x kvs) {i : Nat} {nm : List SP} (hi : x[i]? = some (.dk (dkS nm))) (hn : Nm B kvs nm) {w : Str} {j : Int} (hk : Hk kvs j) : Rm base (B + 1) (x.set i (.dk (dkS (putS nm w (mkD j))))) kvs := by
  have hne : i ≠ 1 := fun z => by subst z; rw [h.c] at hi; cases hi
  refine ⟨by rw [List.getElem?_set_ne hne]; exact h.c, Nat.le_succ_of_le h.n, h.r, fun p hp => (h.e p hp).mono fun i' nm' e z => ?_⟩
  by_cases hii : i' = i
  · subst hii
    refine ⟨_, List.getElem?_set_self (List.getElem?_eq_some_iff.mp hi).1, ?_, putS_one hn.o _ _, fun q hq => ?_⟩
    · have := putS_len (ps := nm) w (mkD j); have := hn.n; omega
    · rcases putS_mem hq with hq | rfl
      · exact hn.m q hq
      · exact ⟨j, rfl, hk⟩
  · exact ⟨nm', by rw [List.getElem?_set_ne (Ne.symm hii)]; exact e, z.mono (Nat.le_succ _) fun _ k => k⟩
/-- a box that is there -/
theorem Rm.at {base B : Nat} {x : List Cell} {kvs : List (List L2.Key × D)} (h : Rm base B x kvs) {j : Int} (hj : j < 100) (hk : Hk kvs j) : ∃ (i : Nat) (nm : List SP), dval kvs (mkK j) = some (.loc (base + i)) ∧ x[i]? = some (.dk (dkS nm)) ∧ Nm B kvs nm := by
  obtain ⟨d, h1, h2⟩ := hk_val hk
  obtain ⟨j', e, h3⟩ := h.e _ h2
  cases mk_inj e
  rcases h3 with ⟨_, i, nm, h4, h5, h6⟩ | ⟨h3, _⟩
  · exact ⟨i, nm, by rw [h1]; exact congrArg some h4, h5, h6⟩
  · omega
/-! sorted marks -/
theorem sort_marks {xs : List D} (h : ∀ d ∈ xs, ∃ j, d = mkD j) (hl : xs.length ≤ 1000) : sortOk xs = true := by
  have a : ∀ i j : Int, PySem.W.alike (toPy (mkD i)) (toPy (mkD j)) = true := fun _ _ => rfl
  simp only [sortOk, Bool.and_eq_true, Bool.or_eq_true, List.all_eq_true, decide_eq_true_eq]
  refine ⟨⟨⟨⟨plains_mem fun d hd => ?_, fun d hd e he => ?_⟩, .inl fun d hd => ?_⟩, ?_⟩, small_le hl (by decide)⟩
  · obtain ⟨j, rfl⟩ := h d hd; rfl
  · obtain ⟨i, rfl⟩ := h d hd
    obtain ⟨j, rfl⟩ := h e he
    exact a i j
  · obtain ⟨j, rfl⟩ := h d hd; rfl
  · refine Nat.le_trans (deps_le (k := 1) fun d hd => ?_) (by decide)
    obtain ⟨j, rfl⟩ := h d hd
    exact Nat.le_refl 1
theorem sortD_p (xs : List D) : (sortD xs).Perm xs := List.mergeSort_perm _ _
section
variable {s : Store} {lo : Nat} {kvs : List (List L2.Key × D)}
theorem look_own (h : s[lo]? = some (.dt kvs)) : look s (.loc lo) = .loc lo := by simp only [look, h]
theorem dct_own (h : s[lo]? = some (.dt kvs)) : dctAt s (.loc lo) = none := by simp only [dctAt, h]
theorem dtt_own (h : s[lo]? = some (.dt kvs)) : dttAt s (.loc lo) = some (lo, kvs) := by simp only [dttAt, h]
theorem len_own (h : s[lo]? = some (.dt kvs)) : prim .len true [.loc lo] s = .ok (.int kvs.length) s := by
  simp only [prim, look_own h, dct_own h, dtt_own h]
theorem idx_own (h : s[lo]? = some (.dt kvs)) {j : Int} {d : D} (hd : dval kvs (mkK j) = some d) : index (.loc lo) (mkD j) s = .ok d s := by
  unfold index
  rw [look_own h]
  have k : keyD (mkD j) = none := rfl
  simp only [dct_own h, dtt_own h, pk_mk, k, hd]
theorem set_own (h : s[lo]? = some (.dt kvs)) {j : Int} {v : D} (hj : j ≠ 0) (hl : kvs.length ≤ 1000) : setitem (.loc lo) (mkD j) v s = .ok () (s.set lo (.dt (dput kvs (mkK j) v))) := by
  have pk : pkS (mkD j) = some (mkK j) := rfl
  unfold setitem
  simp only [h, pk]
  rw [if_pos (Nat.lt_of_le_of_lt hl (by have := sizeLine_eq; omega))]
theorem sorted_own (h : s[lo]? = some (.dt kvs)) (hm : ∀ p ∈ kvs, ∃ j, p.1 = mkK j) (hl : kvs.length ≤ 1000) : prim .sorted true [.loc lo] s = .ok (.lst (sortD (kvs.map fun q => tkD q.1))) s := by
  simp only [prim, look_own h, dct_own h, dtt_own h]
  rw [if_pos (Bool.and_eq_true_iff.mpr ⟨sort_marks (fun d hd => by
    obtain ⟨p, hp, rfl⟩ := List.mem_map.mp hd
    obtain ⟨j, e⟩ := hm p hp
    exact ⟨j, by rw [e]; rfl⟩) (by simpa using hl), List.all_eq_true.mpr fun p hp => by
    obtain ⟨j, e⟩ := hm p hp
    rw [e]; rfl⟩)]
  exact made_old' (by rw [(sortD_p _).length_eq]; simpa using hl)
end
section
variable {s : Store} {lb : Nat} {nm : List (L2.Key × D)}
theorem set_box (h : s[lb]? = some (.dk nm)) {w : Str} {v : D} (hl : nm.length ≤ 1000) : setitem (.loc lb) (.str w) v s = .ok () (s.set lb (.dk (dput nm (.inr w) v))) := by
  unfold setitem
  simp only [h, keyD]
  rw [if_pos (Nat.lt_of_le_of_lt hl (by have := sizeLine_eq; omega))]
theorem nin_box (h : s[lb]? = some (.dk nm)) {w : Str} : compop .nin (.str w) (.loc lb) s = .ok (.bl (!(dval nm (.inr w)).isSome)) s := by
  have e1 : look s (.loc lb) = .loc lb := by simp only [look, h]
  have e2 : dctAt s (.loc lb) = some (lb, nm) := by simp only [dctAt, h]
  simp only [compop, member, e1, e2, keyD, Option.map_some, boolR]
end
/-! the store: the caller's, the room's own cells behind -/
def SX (st : Store) (l : Nat) (a c b : Int) (x : List Cell) : Store := stb st l a c b ++ x
section
variable {T : List Fn} {nx n : Nat} {st : Store} {l : Nat} {a c b : Int} {x : List Cell}
theorem sx_len : (SX st l a c b x).length = st.length + x.length := by unfold SX; rw [List.length_append, stb_len]
theorem sx_at {i : Nat} : (SX st l a c b x)[st.length + i]? = x[i]? := by
  unfold SX
  rw [List.getElem?_append_right (by rw [stb_len]; omega), stb_len]
  congr 1
  omega
theorem sx_set {i : Nat} {d : Cell} : (SX st l a c b x).set (st.length + i) d = SX st l a c b (x.set i d) := by
  unfold SX
  rw [List.set_append_right _ _ (by rw [stb_len]; omega), stb_len]
  congr 2
  omega
theorem sx_app {y : List Cell} : SX st l a c b x ++ y = SX st l a c b (x ++ y) := by unfold SX; rw [List.append_assoc]
theorem sx_next (H : T[nx]? = some ⟨"_law_next", 2, 4, [], bNx⟩) (hl : l < st.length) {sz : Int} (h0 : 0 < sz) (h1 : sz < 1000000) : ∃ r b', 0 ≤ r ∧ r < sz ∧ callN T (n + 1) nx [.loc l, .int sz] (SX st l a c b x) = .ok (.int r) (SX st l a c b' x) := by
  obtain ⟨r, b', p, q, e⟩ := next_ok (n := n) (st := st ++ x) (b := b) (a := a) (c := c) H (l := l) (by rw [List.length_append]; omega) h0 h1
  rw [stb_app hl, stb_app hl] at e
  exact ⟨r, b', p, q, e⟩
def mkE (e : E) : E := .tup [(.neg (.cst (.int 1))), e]
theorem ev_mk {cf : Nat → List D → Store → Mi.R D} {ρ : Mi.Env} {e : E} {s s' : Store} {j : Int} (h : ev cf e ρ s = .ok (.int j) s') : ev cf (mkE e) ρ s = .ok (mkD j) s' := by
  unfold mkE
  simp only [ev, evs, R.bind_ok, h]
  rw [if_pos (small_le (b := 16000000) (by show 2 ≤ 16000000; decide) (by decide))]
  rfl
def callE (nx k : Nat) : E := .call true nx [(.var 0), (.cst (.int k))] []
theorem ev_next {ρ : Mi.Env} (H : T[nx]? = some ⟨"_law_next", 2, 4, [], bNx⟩) (hl : l < st.length) (h0 : ρ[0]? = some (some (.loc l))) {k : Nat} (k0 : 0 < k) (k1 : k ≤ 1000) : ∃ (r : Int) (b' : Int), 0 ≤ r ∧ r < k ∧ ev (callN T (n + 1)) (callE nx k) ρ (SX st l a c b x) = .ok (.int r) (SX st l a c b' x) := by
  obtain ⟨r, b', p, q, e⟩ := sx_next (n := n) (a := a) (b := b) (c := c) (x := x) H hl (sz := k) (by omega) (by omega)
  refine ⟨r, b', p, q, ?_⟩
  unfold callE
  simp only [ev, evs, h0, R.bind_ok, List.append_nil, if_true, e, freeze_int]
def callL (nx v : Nat) : E := .call true nx [(.var 0), (.prm .len true [(.var v)])] []
theorem ev_nextL {ρ : Mi.Env} (H : T[nx]? = some ⟨"_law_next", 2, 4, [], bNx⟩) (hl : l < st.length) (h0 : ρ[0]? = some (some (.loc l))) {v : Nat} {xs : List D} (h1 : ρ[v]? = some (some (.lst xs))) (k0 : 0 < xs.length) (k1 : xs.length ≤ 1000) : ∃ (r : Int) (b' : Int), 0 ≤ r ∧ r < xs.length ∧ ev (callN T (n + 1)) (callL nx v) ρ (SX st l a c b x) = .ok (.int r) (SX st l a c b' x) := by
  obtain ⟨r, b', p, q, e⟩ := sx_next (n := n) (a := a) (b := b) (c := c) (x := x) H hl (sz := xs.length) (by omega) (by omega)
  refine ⟨r, b', p, q, ?_⟩
  unfold callL
  simp only [ev, evs, h0, h1, R.bind_ok, List.append_nil, if_true, len_l look_lst', e, freeze_int]
end
def r1body (nx : Nat) : List S := [.asg 5 (mkE (.bin .add true (.bin .mul true (.cst (.int 10)) (.prm .len true [(.var 2)])) (callE nx 3))), .seti (.var 2) (.var 5) (.dic []), .iff (.cmp .gt (callE nx 4) (.cst (.int 0))) [.seti (.idx (.var 2) (mkE (.cst (.int 0)))) (.idx (.var 1) (.var 3)) (.var 5)] []]
def r3body (nx : Nat) : List S := [.asg 7 (.idx (.var 2) (.idx (.var 4) (callL nx 4))), .asg 8 (.idx (.var 1) (callL nx 1)), .iff (.cmp .nin (.var 8) (.var 7)) [.seti (.var 7) (.var 8) (.var 5)] []]
def r2body (nx : Nat) : List S := [.asg 5 (mkE (.bin .add true (.bin .add true (.cst (.int 100)) (.bin .mul true (.cst (.int 10)) (.prm .len true [(.var 2)]))) (callE nx 3))), .seti (.var 2) (.var 5) (.idx (.lst true [(.cst (.int 0)), (.cst (.int 999)), (callE nx 1000)]) (callE nx 3)), .forr [6] true (.iRng [callE nx 3]) (r3body nx)]
def roomB (nx : Nat) : List S := [.asg 2 (.dit (-1) 0 (.dic [])), .forr [3] true (.iRng [callE nx 3]) (r1body nx), .asg 4 (.prm .sorted true [(.var 2)]), .forr [3] true (.iRng [callE nx 5]) (r2body nx), .ret (.var 2)]
/-- all marks below a hundred -/
def Lo (kvs : List (List L2.Key × D)) : Prop := ∀ p ∈ kvs, ∃ j, j < 100 ∧ p.1 = mkK j
section
variable {T : List Fn} {nx n : Nat} {st : Store} {l : Nat} {a c b : Int} {x : List Cell} {ws : List Str} {kvs : List (List L2.Key × D)} {B : Nat}
theorem turn1 (H : T[nx]? = some ⟨"_law_next", 2, 4, [], bNx⟩) (hl : l < st.length) (h : Rm st.length B x kvs) (hB : B ≤ 8) (lo : Lo kvs) (hw : ∀ z ∈ ws, z.length ≤ 20) {k : Nat} (hk : k < ws.length) {e3 e4 e5 e6 e7 e8 : Option D} :
    ∃ x' b' kvs' e5', fstep (callN T (n + 1)) [3] true (r1body nx) (.int (0 + (k : Int))) [some (.loc l), some (.lst (ws.map D.str)), some (.loc (st.length + 1)), e3, e4, e5, e6, e7, e8] (SX st l a c b x) =
      .nx [some (.loc l), some (.lst (ws.map D.str)), some (.loc (st.length + 1)), some (.int (0 + (k : Int))), e4, e5', e6, e7, e8] (SX st l a c b' x') ∧ Rm st.length (B + 2) x' kvs' ∧ Lo kvs' := by
  unfold fstep
  simp only [bindT, if_true, put, List.set_cons_zero, List.set_cons_succ]
  have c0 : ∀ b, (SX st l a c b x)[st.length + 1]? = some (.dt kvs) := fun b => by rw [sx_at]; exact h.c
  obtain ⟨r1, b1, p1, q1, n1⟩ := ev_next (n := n) (a := a) (b := b) (c := c) (x := x) (ρ := [some (.loc l), some (.lst (ws.map D.str)), some (.loc (st.length + 1)), some (.int (0 + (k : Int))), e4, e5, e6, e7, e8]) H hl rfl (k := 3) (by decide) (by decide)
  have x1 : ev (callN T (n + 1)) (mkE (.bin .add true (.bin .mul true (.cst (.int 10)) (.prm .len true [(.var 2)])) (callE nx 3))) [some (.loc l), some (.lst (ws.map D.str)), some (.loc (st.length + 1)), some (.int (0 + (k : Int))), e4, e5, e6, e7, e8] (SX st l a c b x) = .ok (mkD (10 * kvs.length + r1)) (SX st l a c b1 x) := by
    refine ev_mk ?_
    simp only [ev, evs, List.getElem?_cons_zero, List.getElem?_cons_succ, R.bind_ok, len_own (c0 b)]
    rw [mul_int (.inl (by decide)), R.bind_ok, n1, R.bind_ok, add_int]
  have hj : 10 * (kvs.length : Int) + r1 < 100 := by have := h.n; omega
  have hj0 : 10 * (kvs.length : Int) + r1 ≠ 0 := by have := h.pos; omega
  generalize 10 * (kvs.length : Int) + r1 = j at x1 hj hj0
  have hb := h.box hj
  have lx := h.lt
  have x2 : ev (callN T (n + 1)) (.dic []) [some (.loc l), some (.lst (ws.map D.str)), some (.loc (st.length + 1)), some (.int (0 + (k : Int))), e4, some (mkD j), e6, e7, e8] (SX st l a c b1 x) = .ok (.loc (st.length + x.length)) (SX st l a c b1 (x ++ [.dk []])) := by
    rw [ev, evs, R.bind_ok]
    show R.ok (D.loc (SX st l a c b1 x).length) (SX st l a c b1 x ++ [.dk []]) = _
    rw [sx_len, sx_app]
  have x3 : setitem (.loc (st.length + 1)) (mkD j) (.loc (st.length + x.length)) (SX st l a c b1 (x ++ [.dk []])) = .ok () (SX st l a c b1 ((x ++ [Cell.dk []]).set 1 (.dt (dput kvs (mkK j) (.loc (st.length + x.length)))))) := by
    rw [set_own (kvs := kvs) (by rw [sx_at, List.getElem?_append_left lx]; exact h.c) hj0 (by have := h.n; omega), sx_set]
  have lo2 : Lo (dput kvs (mkK j) (.loc (st.length + x.length))) := fun p hp => by
    rcases dput_mem hp with hp | rfl
    · exact lo p hp
    · exact ⟨j, hj, rfl⟩
  have hkj : Hk (dput kvs (mkK j) (.loc (st.length + x.length))) j := hk_new
  generalize hx2 : (x ++ [Cell.dk []]).set 1 (.dt (dput kvs (mkK j) (.loc (st.length + x.length)))) = x2' at x3 hb
  generalize dput kvs (mkK j) (.loc (st.length + x.length)) = kvs2 at hb lo2 hkj
  have s2 : ex (callN T (n + 1)) (.seti (.var 2) (.var 5) (.dic [])) [some (.loc l), some (.lst (ws.map D.str)), some (.loc (st.length + 1)), some (.int (0 + (k : Int))), e4, some (mkD j), e6, e7, e8] (SX st l a c b1 x) = .nx [some (.loc l), some (.lst (ws.map D.str)), some (.loc (st.length + 1)), some (.int (0 + (k : Int))), e4, some (mkD j), e6, e7, e8] (SX st l a c b1 x2') := by
    rw [ex, x2, R.toF_ok, ev]
    simp only [List.getElem?_cons_zero, List.getElem?_cons_succ, R.toF_ok, ev]
    rw [x3, R.toF_ok]
  obtain ⟨r2, b2, p2, q2, n2⟩ := ev_next (n := n) (a := a) (b := b1) (c := c) (x := x2') (ρ := [some (.loc l), some (.lst (ws.map D.str)), some (.loc (st.length + 1)), some (.int (0 + (k : Int))), e4, some (mkD j), e6, e7, e8]) H hl rfl (k := 4) (by decide) (by decide)
  have x4 : asBool (ev (callN T (n + 1)) (.cmp .gt (callE nx 4) (.cst (.int 0))) [some (.loc l), some (.lst (ws.map D.str)), some (.loc (st.length + 1)), some (.int (0 + (k : Int))), e4, some (mkD j), e6, e7, e8] (SX st l a c b1 x2')) = .ok (decide (0 < r2)) (SX st l a c b2 x2') := by
    rw [ev, n2, R.bind_ok, ev, R.bind_ok, gt_int, asBool_ok]
  rw [r1body, exs_cons, ex_asg, x1, R.toF_ok, F.thn_nx]
  simp only [List.set_cons_zero, List.set_cons_succ]
  rw [exs_cons, s2, F.thn_nx, exs_cons, ex, x4, R.toF_ok]
  by_cases h2 : 0 < r2
  · rw [if_pos (by simp [h2])]
    obtain ⟨i, nm, g1, g2, g3⟩ := hb.at (j := 0) (by decide) hb.r
    obtain ⟨w, hw1, hw2⟩ := word_at hw (r := 0 + (k : Int)) (by omega) (by omega)
    have c2 : (SX st l a c b2 x2')[st.length + 1]? = some (.dt kvs2) := by rw [sx_at]; exact hb.c
    have x5 : ev (callN T (n + 1)) (.idx (.var 2) (mkE (.cst (.int 0)))) [some (.loc l), some (.lst (ws.map D.str)), some (.loc (st.length + 1)), some (.int (0 + (k : Int))), e4, some (mkD j), e6, e7, e8] (SX st l a c b2 x2') = .ok (.loc (st.length + i)) (SX st l a c b2 x2') := by
      rw [ev, ev]
      simp only [List.getElem?_cons_zero, List.getElem?_cons_succ, R.bind_ok]
      rw [ev_mk (j := 0) (by rw [ev]), R.bind_ok, idx_own c2 g1]
    have x6 : setitem (.loc (st.length + i)) (.str w) (mkD j) (SX st l a c b2 x2') = .ok () (SX st l a c b2 (x2'.set i (.dk (dkS (putS nm w (mkD j)))))) := by
      rw [set_box (nm := dkS nm) (by rw [sx_at]; exact g2) (by unfold dkS; rw [List.length_map]; have := g3.n; omega), sx_set, put_dk]
    have s3 : ex (callN T (n + 1)) (.seti (.idx (.var 2) (mkE (.cst (.int 0)))) (.idx (.var 1) (.var 3)) (.var 5)) [some (.loc l), some (.lst (ws.map D.str)), some (.loc (st.length + 1)), some (.int (0 + (k : Int))), e4, some (mkD j), e6, e7, e8] (SX st l a c b2 x2') = .nx [some (.loc l), some (.lst (ws.map D.str)), some (.loc (st.length + 1)), some (.int (0 + (k : Int))), e4, some (mkD j), e6, e7, e8] (SX st l a c b2 (x2'.set i (.dk (dkS (putS nm w (mkD j)))))) := by
      rw [ex, ev]
      simp only [List.getElem?_cons_zero, List.getElem?_cons_succ, R.toF_ok]
      rw [x5, R.toF_ok]
      simp only [ev, List.getElem?_cons_zero, List.getElem?_cons_succ, R.bind_ok, hw2, R.toF_ok]
      rw [x6, R.toF_ok]
    rw [exs_cons, s3, F.thn_nx, exs_nil, F.thn_nx, exs_nil]
    exact ⟨_, b2, kvs2, some (mkD j), rfl, hb.name g2 g3 hkj, lo2⟩
  · rw [if_neg (by simp [h2]), exs_nil, F.thn_nx, exs_nil]
    exact ⟨_, b2, kvs2, some (mkD j), rfl, hb.mono (by omega), lo2⟩
end
/-- the boxes, as marks, that are there -/
def Bx (bs : List D) (kvs : List (List L2.Key × D)) : Prop := ∀ d ∈ bs, ∃ j, j < 100 ∧ d = mkD j ∧ Hk kvs j
theorem Bx.put {bs : List D} {kvs : List (List L2.Key × D)} (h : Bx bs kvs) {j : Int} {v : D} : Bx bs (dput kvs (mkK j) v) := fun d hd => by
  obtain ⟨i, h1, h2, h3⟩ := h d hd
  exact ⟨i, h1, h2, hk_put h3⟩
section
variable {T : List Fn} {nx n : Nat} {st : Store} {l : Nat} {a c b : Int} {x : List Cell} {ws : List Str} {kvs : List (List L2.Key × D)} {B : Nat} {bs : List D}
abbrev ρR (l lo : Nat) (ws : List Str) (e3 : Option D) (bs : List D) (e5 e6 e7 e8 : Option D) : Mi.Env := [some (.loc l), some (.lst (ws.map D.str)), some (.loc lo), e3, some (.lst bs), e5, e6, e7, e8]
theorem turn3 (H : T[nx]? = some ⟨"_law_next", 2, 4, [], bNx⟩) (hl : l < st.length) (h : Rm st.length B x kvs) (hB : B ≤ 80) (hb : Bx bs kvs) (b0 : 0 < bs.length) (b1 : bs.length ≤ 100) (hw : ∀ z ∈ ws, z.length ≤ 20) (w0 : 0 < ws.length) (w1 : ws.length ≤ 100) {k : Nat} {e3 e6 e7 e8 : Option D} {jm : Int} (hkm : Hk kvs jm) :
    ∃ x' b' e7' e8', fstep (callN T (n + 1)) [6] true (r3body nx) (.int (0 + (k : Int))) (ρR l (st.length + 1) ws e3 bs (some (mkD jm)) e6 e7 e8) (SX st l a c b x) =
      .nx (ρR l (st.length + 1) ws e3 bs (some (mkD jm)) (some (.int (0 + (k : Int)))) e7' e8') (SX st l a c b' x') ∧ Rm st.length (B + 1) x' kvs := by
  unfold fstep ρR
  simp only [bindT, if_true, put, List.set_cons_zero, List.set_cons_succ]
  obtain ⟨r1, b1', p1, q1, n1⟩ := ev_nextL (n := n) (a := a) (b := b) (c := c) (x := x) (ρ := [some (.loc l), some (.lst (ws.map D.str)), some (.loc (st.length + 1)), e3, some (.lst bs), some (mkD jm), some (.int (0 + (k : Int))), e7, e8]) H hl rfl (v := 4) (xs := bs) rfl b0 (by omega)
  obtain ⟨d, hd, di⟩ := idx_lst (xs := bs) p1 q1
  obtain ⟨j, hj, rfl, hk⟩ := hb d (List.mem_of_getElem? hd)
  obtain ⟨i, nm, g1, g2, g3⟩ := h.at hj hk
  have x1 : ev (callN T (n + 1)) (.idx (.var 2) (.idx (.var 4) (callL nx 4))) [some (.loc l), some (.lst (ws.map D.str)), some (.loc (st.length + 1)), e3, some (.lst bs), some (mkD jm), some (.int (0 + (k : Int))), e7, e8] (SX st l a c b x) = .ok (.loc (st.length + i)) (SX st l a c b1' x) := by
    rw [ev, ev]
    simp only [List.getElem?_cons_zero, List.getElem?_cons_succ, R.bind_ok]
    rw [ev, ev]
    simp only [List.getElem?_cons_zero, List.getElem?_cons_succ, R.bind_ok]
    rw [n1, R.bind_ok, di, R.bind_ok, idx_own (kvs := kvs) (by rw [sx_at]; exact h.c) g1]
  obtain ⟨r2, b2', p2, q2, n2⟩ := ev_nextL (n := n) (a := a) (b := b1') (c := c) (x := x) (ρ := [some (.loc l), some (.lst (ws.map D.str)), some (.loc (st.length + 1)), e3, some (.lst bs), some (mkD jm), some (.int (0 + (k : Int))), some (.loc (st.length + i)), e8]) H hl rfl (v := 1) (xs := ws.map D.str) rfl (by simpa using w0) (by simp; omega)
  obtain ⟨w, hw1, hw2⟩ := word_at hw (r := r2) p2 (by simpa using q2)
  have x2 : ev (callN T (n + 1)) (.idx (.var 1) (callL nx 1)) [some (.loc l), some (.lst (ws.map D.str)), some (.loc (st.length + 1)), e3, some (.lst bs), some (mkD jm), some (.int (0 + (k : Int))), some (.loc (st.length + i)), e8] (SX st l a c b1' x) = .ok (.str w) (SX st l a c b2' x) := by
    rw [ev, ev]
    simp only [List.getElem?_cons_zero, List.getElem?_cons_succ, R.bind_ok]
    rw [n2, R.bind_ok, hw2]
  have cb : (SX st l a c b2' x)[st.length + i]? = some (.dk (dkS nm)) := by rw [sx_at]; exact g2
  have x3 : asBool (ev (callN T (n + 1)) (.cmp .nin (.var 8) (.var 7)) [some (.loc l), some (.lst (ws.map D.str)), some (.loc (st.length + 1)), e3, some (.lst bs), some (mkD jm), some (.int (0 + (k : Int))), some (.loc (st.length + i)), some (.str w)] (SX st l a c b2' x)) = .ok (!(dval (dkS nm) (.inr w)).isSome) (SX st l a c b2' x) := by
    simp only [ev, List.getElem?_cons_zero, List.getElem?_cons_succ, R.bind_ok]
    rw [nin_box cb, asBool_ok]
  rw [r3body, exs_cons, ex_asg, x1, R.toF_ok, F.thn_nx]
  simp only [List.set_cons_zero, List.set_cons_succ]
  rw [exs_cons, ex_asg, x2, R.toF_ok, F.thn_nx]
  simp only [List.set_cons_zero, List.set_cons_succ]
  rw [exs_cons, ex, x3, R.toF_ok]
  by_cases h2 : (!(dval (dkS nm) (.inr w)).isSome) = true
  · rw [if_pos h2]
    have ln : (dkS nm).length ≤ 1000 := by unfold dkS; rw [List.length_map]; have := g3.n; omega
    have s3 : ex (callN T (n + 1)) (.seti (.var 7) (.var 8) (.var 5)) [some (.loc l), some (.lst (ws.map D.str)), some (.loc (st.length + 1)), e3, some (.lst bs), some (mkD jm), some (.int (0 + (k : Int))), some (.loc (st.length + i)), some (.str w)] (SX st l a c b2' x) = .nx [some (.loc l), some (.lst (ws.map D.str)), some (.loc (st.length + 1)), e3, some (.lst bs), some (mkD jm), some (.int (0 + (k : Int))), some (.loc (st.length + i)), some (.str w)] (SX st l a c b2' (x.set i (.dk (dkS (putS nm w (mkD jm)))))) := by
      rw [ex, ev]
      simp only [List.getElem?_cons_zero, List.getElem?_cons_succ, R.toF_ok, ev]
      rw [set_box cb ln, R.toF_ok, sx_set, put_dk]
    rw [exs_cons, s3, F.thn_nx, exs_nil, F.thn_nx, exs_nil]
    exact ⟨_, b2', some (.loc (st.length + i)), some (.str w), rfl, h.name g2 g3 hkm⟩
  · rw [if_neg h2, exs_nil, F.thn_nx, exs_nil]
    exact ⟨_, b2', some (.loc (st.length + i)), some (.str w), rfl, h.mono (Nat.le_succ _)⟩
theorem rng_ev (H : T[nx]? = some ⟨"_law_next", 2, 4, [], bNx⟩) (hl : l < st.length) {ρ : Mi.Env} (h0 : ρ[0]? = some (some (.loc l))) {k : Nat} (k0 : 0 < k) (k1 : k ≤ 1000) : ∃ (q : Nat) (b' : Int), q < k ∧ evI (callN T (n + 1)) (.iRng [callE nx k]) ρ (SX st l a c b x) = .ok ((List.range q).map (fun (k : Nat) => D.int (0 + (k : Int))), none) (SX st l a c b' x) := by
  obtain ⟨r, b', p, q, e⟩ := ev_next (n := n) (a := a) (b := b) (c := c) (x := x) (ρ := ρ) H hl h0 k0 k1
  obtain ⟨m, rfl⟩ := Int.eq_ofNat_of_zero_le p
  refine ⟨m, b', by omega, iRng_ev (ds := [.int (m : Int)]) ?_ (rangeD1 ?_)⟩
  · rw [evs, e, R.bind_ok, evs, R.bind_ok]
  · simp only [inRange, Bool.and_eq_true, decide_eq_true_eq]
    have : (2 : Int) ^ 62 = 4611686018427387904 := by decide
    omega
theorem turn2 (H : T[nx]? = some ⟨"_law_next", 2, 4, [], bNx⟩) (hl : l < st.length) (h : Rm st.length B x kvs) (hB : B ≤ 70) (hb : Bx bs kvs) (b0 : 0 < bs.length) (b1 : bs.length ≤ 100) (hw : ∀ z ∈ ws, z.length ≤ 20) (w0 : 0 < ws.length) (w1 : ws.length ≤ 100) {k : Nat} {e3 e5 e6 e7 e8 : Option D} :
    ∃ x' b' kvs' e5' e6' e7' e8', fstep (callN T (n + 1)) [3] true (r2body nx) (.int (0 + (k : Int))) (ρR l (st.length + 1) ws e3 bs e5 e6 e7 e8) (SX st l a c b x) =
      .nx (ρR l (st.length + 1) ws (some (.int (0 + (k : Int)))) bs e5' e6' e7' e8') (SX st l a c b' x') ∧ Rm st.length (B + 4) x' kvs' ∧ Bx bs kvs' := by
  unfold fstep ρR
  simp only [bindT, if_true, put, List.set_cons_zero, List.set_cons_succ]
  have c0 : ∀ b, (SX st l a c b x)[st.length + 1]? = some (.dt kvs) := fun b => by rw [sx_at]; exact h.c
  obtain ⟨r1, b1', p1, q1, n1⟩ := ev_next (n := n) (a := a) (b := b) (c := c) (x := x) (ρ := [some (.loc l), some (.lst (ws.map D.str)), some (.loc (st.length + 1)), some (.int (0 + (k : Int))), some (.lst bs), e5, e6, e7, e8]) H hl rfl (k := 3) (by decide) (by decide)
  have x1 : ev (callN T (n + 1)) (mkE (.bin .add true (.bin .add true (.cst (.int 100)) (.bin .mul true (.cst (.int 10)) (.prm .len true [(.var 2)]))) (callE nx 3))) [some (.loc l), some (.lst (ws.map D.str)), some (.loc (st.length + 1)), some (.int (0 + (k : Int))), some (.lst bs), e5, e6, e7, e8] (SX st l a c b x) = .ok (mkD (100 + 10 * kvs.length + r1)) (SX st l a c b1' x) := by
    refine ev_mk ?_
    simp only [ev, evs, List.getElem?_cons_zero, List.getElem?_cons_succ, R.bind_ok, len_own (c0 b)]
    rw [mul_int (.inl (by decide)), R.bind_ok, add_int, R.bind_ok, n1, R.bind_ok, add_int]
  have hj : 100 ≤ 100 + 10 * (kvs.length : Int) + r1 := by omega
  generalize 100 + 10 * (kvs.length : Int) + r1 = j at x1 hj
  obtain ⟨r2, b2', p2, q2, n2⟩ := ev_next (n := n) (a := a) (b := b1') (c := c) (x := x) (ρ := [some (.loc l), some (.lst (ws.map D.str)), some (.loc (st.length + 1)), some (.int (0 + (k : Int))), some (.lst bs), some (mkD j), e6, e7, e8]) H hl rfl (k := 1000) (by decide) (by decide)
  obtain ⟨r3, b3', p3, q3, n3⟩ := ev_next (n := n) (a := a) (b := b2') (c := c) (x := x) (ρ := [some (.loc l), some (.lst (ws.map D.str)), some (.loc (st.length + 1)), some (.int (0 + (k : Int))), some (.lst bs), some (mkD j), e6, e7, e8]) H hl rfl (k := 3) (by decide) (by decide)
  obtain ⟨d, hd, di⟩ := idx_lst (xs := [.int 0, .int 999, .int r2]) p3 (by simpa using q3)
  obtain ⟨v, rfl⟩ : ∃ v : Int, d = .int v := by
    have := List.mem_of_getElem? hd
    simp at this
    rcases this with rfl | rfl | rfl <;> exact ⟨_, rfl⟩
  have x2 : ev (callN T (n + 1)) (.idx (.lst true [(.cst (.int 0)), (.cst (.int 999)), (callE nx 1000)]) (callE nx 3)) [some (.loc l), some (.lst (ws.map D.str)), some (.loc (st.length + 1)), some (.int (0 + (k : Int))), some (.lst bs), some (mkD j), e6, e7, e8] (SX st l a c b1' x) = .ok (.int v) (SX st l a c b3' x) := by
    have y1 : ev (callN T (n + 1)) (.lst true [(.cst (.int 0)), (.cst (.int 999)), (callE nx 1000)]) [some (.loc l), some (.lst (ws.map D.str)), some (.loc (st.length + 1)), some (.int (0 + (k : Int))), some (.lst bs), some (mkD j), e6, e7, e8] (SX st l a c b1' x) = .ok (.lst [.int 0, .int 999, .int r2]) (SX st l a c b2' x) := by
      rw [ev, evs, ev, R.bind_ok, evs, ev, R.bind_ok, evs, n2, R.bind_ok, evs, R.bind_ok, R.bind_ok, R.bind_ok, R.bind_ok]
      exact made_old' (by show 3 ≤ 1000; decide)
    rw [ev, y1, R.bind_ok, n3, R.bind_ok, di]
  have hs := h.sheet (v := v) hj
  have x3 : setitem (.loc (st.length + 1)) (mkD j) (.int v) (SX st l a c b3' x) = .ok () (SX st l a c b3' (x.set 1 (.dt (dput kvs (mkK j) (.int v))))) := by
    rw [set_own (c0 b3') (by omega) (by have := h.n; omega), sx_set]
  have hb2 : Bx bs (dput kvs (mkK j) (.int v)) := hb.put
  have hkj : Hk (dput kvs (mkK j) (.int v)) j := hk_new
  generalize x.set 1 (.dt (dput kvs (mkK j) (.int v))) = x2' at x3 hs
  generalize dput kvs (mkK j) (.int v) = kvs2 at hs hb2 hkj
  have s2 : ex (callN T (n + 1)) (.seti (.var 2) (.var 5) (.idx (.lst true [(.cst (.int 0)), (.cst (.int 999)), (callE nx 1000)]) (callE nx 3))) [some (.loc l), some (.lst (ws.map D.str)), some (.loc (st.length + 1)), some (.int (0 + (k : Int))), some (.lst bs), some (mkD j), e6, e7, e8] (SX st l a c b1' x) = .nx [some (.loc l), some (.lst (ws.map D.str)), some (.loc (st.length + 1)), some (.int (0 + (k : Int))), some (.lst bs), some (mkD j), e6, e7, e8] (SX st l a c b3' x2') := by
    rw [ex, x2, R.toF_ok, ev]
    simp only [List.getElem?_cons_zero, List.getElem?_cons_succ, R.toF_ok, ev]
    rw [x3, R.toF_ok]
  obtain ⟨q, b4', hq, i1⟩ := rng_ev (n := n) (a := a) (b := b3') (c := c) (x := x2') (ρ := [some (.loc l), some (.lst (ws.map D.str)), some (.loc (st.length + 1)), some (.int (0 + (k : Int))), some (.lst bs), some (mkD j), e6, e7, e8]) H hl rfl (k := 3) (by decide) (by decide)
  obtain ⟨ρ', s', f1, x5, b5', g6, g7, g8, rfl, rfl, r5⟩ := loopF_inv (ck := fun s => stands s ((List.range q).map (fun (k : Nat) => D.int (0 + (k : Int)))) none) (f := fstep (callN T (n + 1)) [6] true (r3body nx))
    (fun t ρ s => ∃ x5 b5' g6 g7 g8, ρ = ρR l (st.length + 1) ws (some (.int (0 + (k : Int)))) bs (some (mkD j)) g6 g7 g8 ∧ s = SX st l a c b5' x5 ∧ Rm st.length (B + 1 + t) x5 kvs2) (xs := (List.range q).map (fun (k : Nat) => D.int (0 + (k : Int)))) (k := 0) (ρ := ρR l (st.length + 1) ws (some (.int (0 + (k : Int)))) bs (some (mkD j)) e6 e7 e8) (s := SX st l a c b4' x2') (fun _ _ _ _ => trivial) (fun t d hd ρ s hp => by
      obtain ⟨x5, b5', g6, g7, g8, rfl, rfl, r5⟩ := hp
      rw [List.getElem?_map] at hd
      obtain ⟨k', hk', rfl⟩ := Option.map_eq_some_iff.mp hd
      have hlt := (List.getElem?_eq_some_iff.mp hk').1
      rw [List.length_range] at hlt
      obtain ⟨x6, b6', e7', e8', e, r6⟩ := turn3 (n := n) (k := k') (b := b5') (a := a) (c := c) H hl r5 (by omega) hb2 b0 b1 hw w0 w1 (e3 := some (.int (0 + (k : Int)))) (e6 := g6) (e7 := g7) (e8 := g8) hkj
      exact ⟨_, _, e, x6, b6', _, e7', e8', rfl, rfl, r6⟩) ⟨x2', b4', e6, e7, e8, rfl, rfl, hs⟩
  rw [List.length_map, List.length_range] at r5
  rw [r2body, exs_cons, ex_asg, x1, R.toF_ok, F.thn_nx]
  simp only [List.set_cons_zero, List.set_cons_succ]
  rw [exs_cons, s2, F.thn_nx, exs_cons, ex_for, i1, R.toF_ok, f1, F.thn_nx, exs_nil]
  exact ⟨x5, b5', kvs2, some (mkD j), g6, g7, g8, rfl, r5.mono (by omega), hb2⟩
/-- the room's def -/
theorem room_ok {rm : Nat} (H : T[nx]? = some ⟨"_law_next", 2, 4, [], bNx⟩) (H6 : T[rm]? = some ⟨"_law_room", 2, 9, [], roomB nx⟩) (hl : l < st.length) (hw : ∀ z ∈ ws, z.length ≤ 20) (w0 : 3 < ws.length) (w1 : ws.length ≤ 100) :
    ∃ x b' kvs, callN T (n + 2) rm [.loc l, .lst (ws.map D.str)] (stb st l a c b) = .ok (.loc (st.length + 1)) (SX st l a c b' x) ∧ Rm st.length 60 x kvs := by
  rw [callN_s H6 rfl]
  show ∃ x b' kvs, leave (stb st l a c b) (exs (callN T (n + 1)) (roomB nx) [some (.loc l), some (.lst (ws.map D.str)), none, none, none, none, none, none, none] (stb st l a c b)) = _ ∧ _
  have s0 : stb st l a c b = SX st l a c b [] := by unfold SX; rw [List.append_nil]
  have x1 : ev (callN T (n + 1)) (.dit (-1) 0 (.dic [])) [some (.loc l), some (.lst (ws.map D.str)), none, none, none, none, none, none, none] (SX st l a c b []) = .ok (.loc (st.length + 1)) (SX st l a c b [.dk [], .dt [(mkK 0, .loc (st.length + 0))]]) := by
    have y1 : ev (callN T (n + 1)) (.dic []) [some (.loc l), some (.lst (ws.map D.str)), none, none, none, none, none, none, none] (SX st l a c b []) = .ok (.loc (st.length + 0)) (SX st l a c b [.dk []]) := by
      rw [ev, evs, R.bind_ok]
      show R.ok (D.loc (SX st l a c b []).length) (SX st l a c b [] ++ [.dk []]) = _
      rw [sx_len, sx_app]; rfl
    rw [ev, y1, R.bind_ok]
    show R.ok (D.loc (SX st l a c b [.dk []]).length) (SX st l a c b [.dk []] ++ [.dt _]) = _
    rw [sx_len, sx_app]; rfl
  have h0 : Rm st.length 1 [.dk [], .dt [(mkK 0, .loc (st.length + 0))]] [(mkK 0, .loc (st.length + 0))] := by
    refine ⟨rfl, Nat.le_refl _, ⟨_, .head _⟩, fun p hp => ?_⟩
    simp at hp
    subst hp
    exact ⟨0, rfl, .inl ⟨by decide, 0, [], rfl, rfl, nm_nil⟩⟩
  have lo0 : Lo [(mkK 0, D.loc (st.length + 0))] := fun p hp => by
    simp at hp
    subst hp
    exact ⟨0, by decide, rfl⟩
  obtain ⟨q, b2', hq, i1⟩ := rng_ev (n := n) (a := a) (b := b) (c := c) (x := [.dk [], .dt [(mkK 0, .loc (st.length + 0))]]) (ρ := [some (.loc l), some (.lst (ws.map D.str)), some (.loc (st.length + 1)), none, none, none, none, none, none]) H hl rfl (k := 3) (by decide) (by decide)
  obtain ⟨ρ', s', f1, x3, b3', kvs3, g3, g5, rfl, rfl, r3, lo3⟩ := loopF_inv (ck := fun s => stands s ((List.range q).map (fun (k : Nat) => D.int (0 + (k : Int)))) none) (f := fstep (callN T (n + 1)) [3] true (r1body nx))
    (fun t ρ s => ∃ x3 b3' kvs3 g3 g5, ρ = [some (.loc l), some (.lst (ws.map D.str)), some (.loc (st.length + 1)), g3, none, g5, none, none, none] ∧ s = SX st l a c b3' x3 ∧ Rm st.length (1 + 2 * t) x3 kvs3 ∧ Lo kvs3) (xs := (List.range q).map (fun (k : Nat) => D.int (0 + (k : Int)))) (k := 0) (ρ := [some (.loc l), some (.lst (ws.map D.str)), some (.loc (st.length + 1)), none, none, none, none, none, none]) (s := SX st l a c b2' [.dk [], .dt [(mkK 0, .loc (st.length + 0))]]) (fun _ _ _ _ => trivial) (fun t d hd ρ s hp => by
      obtain ⟨x3, b3', kvs3, g3, g5, rfl, rfl, r3, lo3⟩ := hp
      rw [List.getElem?_map] at hd
      obtain ⟨k', hk', rfl⟩ := Option.map_eq_some_iff.mp hd
      have hlt := (List.getElem?_eq_some_iff.mp hk').1
      have hval : k' = t := by
        rw [List.getElem?_range (by simpa using hlt)] at hk'
        exact (Option.some.inj hk').symm
      rw [List.length_range] at hlt
      obtain ⟨x4, b4', kvs4, e5', e, r4, lo4⟩ := turn1 (n := n) (k := k') (b := b3') (a := a) (c := c) H hl r3 (by omega) lo3 hw (by omega) (e3 := g3) (e4 := none) (e5 := g5) (e6 := none) (e7 := none) (e8 := none)
      exact ⟨_, _, e, x4, b4', kvs4, _, e5', rfl, rfl, by rw [show 1 + 2 * (0 + t + 1) = 1 + 2 * (0 + t) + 2 by omega]; exact r4, lo4⟩) ⟨_, b2', _, none, none, rfl, rfl, h0, lo0⟩
  rw [List.length_map, List.length_range] at r3
  have c3 : (SX st l a c b3' x3)[st.length + 1]? = some (.dt kvs3) := by rw [sx_at]; exact r3.c
  have x4 : ev (callN T (n + 1)) (.prm .sorted true [(.var 2)]) [some (.loc l), some (.lst (ws.map D.str)), some (.loc (st.length + 1)), g3, none, g5, none, none, none] (SX st l a c b3' x3) = .ok (.lst (sortD (kvs3.map fun q => tkD q.1))) (SX st l a c b3' x3) := by
    simp only [ev, evs, List.getElem?_cons_zero, List.getElem?_cons_succ, R.bind_ok]
    exact sorted_own c3 (fun p hp => let ⟨j, _, e⟩ := lo3 p hp; ⟨j, e⟩) (by have := r3.n; omega)
  have bl : (sortD (kvs3.map fun q => tkD q.1)).length = kvs3.length := by rw [(sortD_p _).length_eq, List.length_map]
  have b0 : 0 < (sortD (kvs3.map fun q => tkD q.1)).length := by
    rw [bl]
    obtain ⟨d, hd⟩ := r3.r
    exact List.length_pos_of_mem hd
  have bx : Bx (sortD (kvs3.map fun q => tkD q.1)) kvs3 := fun d hd => by
    obtain ⟨p, hp, rfl⟩ := List.mem_map.mp ((sortD_p _).mem_iff.mp hd)
    obtain ⟨j, hj, e⟩ := lo3 p hp
    exact ⟨j, hj, by rw [e]; rfl, p.2, by rw [← e]; exact hp⟩
  generalize sortD (kvs3.map fun q => tkD q.1) = bs at x4 bl b0 bx
  obtain ⟨q2, b5', hq2, i2⟩ := rng_ev (n := n) (a := a) (b := b3') (c := c) (x := x3) (ρ := [some (.loc l), some (.lst (ws.map D.str)), some (.loc (st.length + 1)), g3, some (.lst bs), g5, none, none, none]) H hl rfl (k := 5) (by decide) (by decide)
  obtain ⟨ρ', s', f2, x6, b6', kvs6, k3, k5, k6, k7, k8, rfl, rfl, r6, bx6⟩ := loopF_inv (ck := fun s => stands s ((List.range q2).map (fun (k : Nat) => D.int (0 + (k : Int)))) none) (f := fstep (callN T (n + 1)) [3] true (r2body nx))
    (fun t ρ s => ∃ x6 b6' kvs6 k3 k5 k6 k7 k8, ρ = ρR l (st.length + 1) ws k3 bs k5 k6 k7 k8 ∧ s = SX st l a c b6' x6 ∧ Rm st.length (1 + 2 * (0 + q) + 4 * t) x6 kvs6 ∧ Bx bs kvs6) (xs := (List.range q2).map (fun (k : Nat) => D.int (0 + (k : Int)))) (k := 0) (ρ := ρR l (st.length + 1) ws g3 bs g5 none none none) (s := SX st l a c b5' x3) (fun _ _ _ _ => trivial) (fun t d hd ρ s hp => by
      obtain ⟨x6, b6', kvs6, k3, k5, k6, k7, k8, rfl, rfl, r6, bx6⟩ := hp
      rw [List.getElem?_map] at hd
      obtain ⟨k', hk', rfl⟩ := Option.map_eq_some_iff.mp hd
      have hlt := (List.getElem?_eq_some_iff.mp hk').1
      have hval : k' = t := by
        rw [List.getElem?_range (by simpa using hlt)] at hk'
        exact (Option.some.inj hk').symm
      rw [List.length_range] at hlt
      obtain ⟨x7, b7', kvs7, e5', e6', e7', e8', e, r7, bx7⟩ := turn2 (n := n) (k := k') (b := b6') (a := a) (c := c) H hl r6 (by omega) bx6 b0 (by have := r3.n; omega) hw (by omega) w1 (e3 := k3) (e5 := k5) (e6 := k6) (e7 := k7) (e8 := k8)
      exact ⟨_, _, e, x7, b7', kvs7, _, e5', e6', e7', e8', rfl, rfl, by rw [show 1 + 2 * (0 + q) + 4 * (0 + t + 1) = 1 + 2 * (0 + q) + 4 * (0 + t) + 4 by omega]; exact r7, bx7⟩) ⟨x3, b5', kvs3, g3, g5, none, none, none, rfl, rfl, r3, bx⟩
  rw [List.length_map, List.length_range] at r6
  refine ⟨x6, b6', kvs6, ?_, r6.mono (by omega)⟩
  rw [roomB, exs_cons, ex_asg, s0, x1, R.toF_ok, F.thn_nx]
  simp only [List.set_cons_zero, List.set_cons_succ]
  rw [exs_cons, ex_for, i1, R.toF_ok, f1, F.thn_nx, exs_cons, ex_asg, x4, R.toF_ok, F.thn_nx]
  simp only [List.set_cons_zero, List.set_cons_succ]
  rw [exs_cons, ex_for, i2, R.toF_ok, f2, F.thn_nx, exs_cons, ex, ev]
  simp only [ρR, List.getElem?_cons_zero, List.getElem?_cons_succ, R.toF_ok, F.thn_rt, leave_rt]
  rw [← s0]
  have kp : Keeps (stb st l a c b) (SX st l a c b6' x6) := by
    refine ⟨by rw [sx_len, stb_len]; omega, fun i hi => ?_⟩
    rw [stb_len] at hi
    have e : (SX st l a c b6' x6)[i]? = (stb st l a c b6')[i]? := by unfold SX; rw [List.getElem?_append_left (by rw [stb_len]; exact hi)]
    rw [e]
    have := (stb_keeps (st := st) (l := l) (a := a) (c := c) (b := b) (b' := b6')).2 i (by rw [stb_len]; exact hi)
    exact this
  unfold canon
  rw [if_pos kp]
  simp only
  rw [if_neg (by rw [stb_len]; omega), sx_at, r6.c]
  simp only
  obtain ⟨i, nm, g1, g2, g3⟩ := r6.at (j := 0) (by decide) r6.r
  obtain ⟨d, hd1, hd2⟩ := hk_val r6.r
  rw [g1] at hd1
  cases hd1
  rw [if_neg]
  intro z
  have z : belows (stb st l a c b).length (kvs6.map (·.2)) = true := z
  have all : ∀ {ds : List D}, belows (stb st l a c b).length ds = true → ∀ d ∈ ds, Mi.below (stb st l a c b).length d = true := by
    intro ds
    induction ds with
    | nil => intro _ d hd; cases hd
    | cons y ys ih =>
      intro hb d hd
      simp only [belows, Bool.and_eq_true] at hb
      rcases List.mem_cons.mp hd with rfl | hd
      · exact hb.1
      · exact ih hb.2 d hd
  have := all z _ (List.mem_map.mpr ⟨_, hd2, rfl⟩)
  unfold Mi.below at this
  rw [stb_len] at this
  simp at this
  omega
end
end Sl
/-! DrK: slots drawn. -/
namespace Sl
open PySem PySem.Spec Mi Dr Pr
/-- a room's dict, as it stands -/
structure OwnAt (S : Store) (l lo : Nat) (kvs : List (List L2.Key × D)) : Prop where
  c : S[lo]? = some (.dt kvs)
  ne : lo ≠ l
  n : kvs.length ≤ 60
  r : ∃ i nm, i ≠ l ∧ dval kvs (mkK 0) = some (.loc i) ∧ S[i]? = some (Cell.dk nm)
  e : ∀ p ∈ kvs, ∃ j, p.1 = mkK j ∧ ((∃ (i : Nat) (nm : List SP), i ≠ l ∧ p.2 = .loc i ∧ S[i]? = some (Cell.dk (dkS nm)) ∧ Nm 60 kvs nm) ∨ ∃ v : Int, p.2 = .int v)
def Mk (d : D) : Prop := d = .non ∨ ∃ j, d = mkD j
theorem Mk.sn {d : D} (h : Mk d) : Mi.plain d = true ∧ Mi.flat d = true ∧ dep d ≤ 1 := by
  rcases h with rfl | ⟨j, rfl⟩
  · exact ⟨rfl, rfl, Nat.zero_le _⟩
  · exact ⟨rfl, rfl, Nat.le_refl 1⟩
def Vl (d : D) : Prop := d = .non ∨ ∃ v : Int, d = .int v
/-- what a slot has -/
def Seen (v : D) : Prop := ∃ (h : Bool) (g9 : D) (w : Str) (g val : D), v = .tup [.str (if h then ("held" : Str) else "seen"), g9, .str w, g, val] ∧ Mk g9 ∧ Mk g ∧ Vl val
theorem Vl.sn {d : D} (h : Vl d) : Mi.plain d = true ∧ Mi.flat d = true ∧ dep d ≤ 1 := by
  rcases h with rfl | ⟨j, rfl⟩ <;> exact ⟨rfl, rfl, Nat.zero_le _⟩
theorem Seen.sn {v : D} (h : Seen v) : Sn v := by
  obtain ⟨h8, g9, w10, g, v, rfl, mg9, hg, hv⟩ := h
  obtain ⟨f1, f2, f3⟩ := mg9.sn
  obtain ⟨g1, g2, g3⟩ := hg.sn
  obtain ⟨h1, h2, h3⟩ := hv.sn
  refine ⟨?_, ?_, ?_⟩
  · simp only [Mi.plain, plains, f1, g1, h1, Bool.and_self]
  · simp only [Mi.flat, flats, f2, g2, h2, Bool.and_self]
  · show deps _ + 1 ≤ 5
    have := deps_le (k := 1) (xs := [.str (if h8 then ("held" : Str) else "seen"), g9, .str w10, g, v]) fun d hd => by
      simp at hd
      rcases hd with rfl | rfl | rfl | rfl | rfl
      · exact Nat.zero_le _
      · exact f3
      · exact Nat.zero_le _
      · exact g3
      · exact h3
    omega
section
variable {T : List Fn} {nx n : Nat} {st : Store} {l lo : Nat} {a c b : Int} {x : List Cell} {ws : List Str} {kvs : List (List L2.Key × D)}
theorem sx_old {i : Nat} {d : Cell} (h : st[i]? = some d) (hne : i ≠ l) : (SX st l a c b x)[i]? = some d := by
  unfold SX stb
  rw [List.getElem?_append_left (by rw [List.length_set]; exact (List.getElem?_eq_some_iff.mp h).1), List.getElem?_set_ne (Ne.symm hne)]
  exact h
theorem own_get (h : OwnAt st l lo kvs) {d : D} (hd : Mk d) : ∃ v, meth .get true (.loc lo) [d, .odd] (SX st l a c b x) = .ok v (SX st l a c b x) ∧ (isTy (SX st l a c b x) v .dict = true ∨ ∃ i : Int, v = .int i) := by
  have c0 : (SX st l a c b x)[lo]? = some (.dt kvs) := sx_old h.c h.ne
  unfold meth mGet
  rw [dct_own c0, dtt_own c0]
  rcases hd with rfl | ⟨j, rfl⟩
  · exact ⟨.odd, rfl, .inl rfl⟩
  · refine ⟨(dval kvs (mkK j)).getD .odd, by simp only [mkD, pkD, mkK], ?_⟩
    cases e : dval kvs (mkK j) with
    | none => exact .inl rfl
    | some v =>
      unfold dval at e
      obtain ⟨p, hp, rfl⟩ := Option.map_eq_some_iff.mp e
      obtain ⟨j', e1, h2⟩ := h.e p (List.mem_of_find?_eq_some hp)
      rcases h2 with ⟨i, nm, ne, e2, e3, _⟩ | ⟨v, e2⟩
      · refine .inl ?_
        rw [Option.getD_some, e2]
        have c1 : (SX st l a c b x)[i]? = some (.dk (dkS nm)) := sx_old e3 ne
        simp only [isTy, c1]
      · exact .inr ⟨v, e2⟩
def wayE : E := .lst true [(.cst (.str "held")), (.cst (.str "held")), (.cst (.str "seen"))]
def boxE (nx : Nat) : E := .lst true [mkE (.cst (.int 0)), (.idx (.var 5) (callL nx 5)), (.cst .non)]
def mrkE : E := .bin .add true (.lst true [(.cst .non)]) (.slc true (.var 4) [(.cst (.int 1))] [])
def tupE : E := .tup [(.var 8), (.var 9), (.var 10), (.idx (.lst true [(.var 11), (.cst .non)]) (.prm .int true [(.cmp .isc (.var 9) (.cst .non))])), (.var 12)]
def valS7 (nx : Nat) : S := .iff (.or (.isa (.var 12) [.dict]) (.cmp .isc (.var 9) (.cst .non))) [.asg 12 (.cst .non)] [.iff (.cmp .eq (callE nx 4) (.cst (.int 0))) [.asg 12 (.bin .mod true (.bin .add true (.var 12) (.cst (.int 1))) (.cst (.int 1000)))] []]
def sbody (nx : Nat) : List S := [.asg 7 (.idx (.var 2) (callL nx 2)), .asg 8 (.idx wayE (callE nx 3)), .asg 9 (.idx (boxE nx) (.bin .fdiv true (callE nx 7) (.cst (.int 3)))), .asg 10 (.idx (.var 2) (callL nx 2)), .asg 11 (.idx mrkE (callL nx 4)), .asg 12 (.mth .get true (.var 1) [(.var 11), .odc]), (valS7 nx), .seti (.var 3) (.var 7) tupE]
def bxcomp : E := .comp true [11] [11] true (.iSeq (.var 4)) [(.isa (.idx (.var 1) (.var 11)) [.dict])] (.var 11)
def slotsB (nx : Nat) : List S := [.asg 3 (.dic []), .asg 4 (.prm .sorted true [(.var 1)]), .asg 5 bxcomp, .forr [6] true (.iRng [callE nx 4]) (sbody nx), .ret (.var 3)]
abbrev ρS (l lo ls : Nat) (ws : List Str) (ms bs : List D) (e6 e7 e8 e9 e10 e11 e12 : Option D) : Mi.Env := [some (.loc l), some (.loc lo), some (.lst (ws.map D.str)), some (.loc ls), some (.lst ms), some (.lst bs), e6, e7, e8, e9, e10, e11, e12]
theorem word_ev (H : T[nx]? = some ⟨"_law_next", 2, 4, [], bNx⟩) (hl : l < st.length) (hw : ∀ z ∈ ws, z.length ≤ 20) (w0 : 0 < ws.length) (w1 : ws.length ≤ 100) {v : Nat} {ρ : Mi.Env} (h0 : ρ[0]? = some (some (.loc l))) (h1 : ρ[v]? = some (some (.lst (ws.map D.str)))) : ∃ (w : Str) (b' : Int), w ∈ ws ∧ ev (callN T (n + 1)) (.idx (.var v) (callL nx v)) ρ (SX st l a c b x) = .ok (.str w) (SX st l a c b' x) := by
  obtain ⟨r, b', p, q, e⟩ := ev_nextL (n := n) (a := a) (b := b) (c := c) (x := x) (ρ := ρ) H hl h0 (v := v) (xs := ws.map D.str) h1 (by simpa using w0) (by simp; omega)
  obtain ⟨d, hd, di⟩ := idx_lst (xs := ws.map D.str) p q
  rw [List.getElem?_map] at hd
  obtain ⟨w, hw, rfl⟩ := Option.map_eq_some_iff.mp hd
  refine ⟨w, b', List.mem_of_getElem? hw, ?_⟩
  rw [ev, ev, h1]
  simp only [R.bind_ok]
  rw [e, R.bind_ok, di]
theorem lst_at {xs : List D} {e : E} {ρ : Mi.Env} {cf : Nat → List D → Store → Mi.R D} {ae : E} {s s1 s2 : Store} {r : Int} (h1 : ev cf ae ρ s = .ok (.lst xs) s1) (h2 : ev cf e ρ s1 = .ok (.int r) s2) (p : 0 ≤ r) (q : r < xs.length) : ∃ d, d ∈ xs ∧ ev cf (.idx ae e) ρ s = .ok d s2 := by
  obtain ⟨d, hd, di⟩ := idx_lst (xs := xs) p q
  refine ⟨d, List.mem_of_getElem? hd, ?_⟩
  rw [ev, h1, R.bind_ok, h2, R.bind_ok, di]
theorem isc_non {d : D} {s : Store} : compop .isc d .non s = .ok (.bl (match d with | .non => true | _ => false)) s := by
  cases d <;> rfl
theorem fdiv3 {r : Int} {s : Store} : binop .fdiv true (.int r) (.int 3) s = .ok (.int (r.fdiv 3)) s := rfl
theorem turnS (H : T[nx]? = some ⟨"_law_next", 2, 4, [], bNx⟩) (hl : l < st.length) (ow : OwnAt st l lo kvs) {ps : List SP} (hps : ∀ p ∈ ps, Seen p.2) (hpl : ps.length ≤ 100) (one : One ps) (hw : ∀ z ∈ ws, z.length ≤ 20) (w0 : 0 < ws.length) (w1 : ws.length ≤ 100) {ms bs : List D} (m0 : 0 < ms.length) (m1 : ms.length ≤ 100) (hm : ∀ d ∈ ms, Mk d) (b0 : 0 < bs.length) (b1 : bs.length ≤ 100) (hb : ∀ d ∈ bs, Mk d) {k : Nat} {e6 e7 e8 e9 e10 e11 e12 : Option D} :
    ∃ ps' b' e7' e8' e9' e10' e11' e12', fstep (callN T (n + 1)) [6] true (sbody nx) (.int (0 + (k : Int))) (ρS l lo (st.length + 0) ws ms bs e6 e7 e8 e9 e10 e11 e12) (SX st l a c b [.dk (dkS ps)]) =
      .nx (ρS l lo (st.length + 0) ws ms bs (some (.int (0 + (k : Int)))) e7' e8' e9' e10' e11' e12') (SX st l a c b' [.dk (dkS ps')]) ∧ (∀ p ∈ ps', Seen p.2) ∧ ps'.length ≤ ps.length + 1 ∧ One ps' := by
  unfold fstep ρS
  simp only [bindT, if_true, put, List.set_cons_zero, List.set_cons_succ]
  generalize hx : [Cell.dk (dkS ps)] = x
  obtain ⟨w7, b1', hw7, x7⟩ := word_ev (n := n) (a := a) (b := b) (c := c) (x := x) H hl hw w0 w1 (v := 2) (ρ := [some (.loc l), some (.loc lo), some (.lst (ws.map D.str)), some (.loc (st.length + 0)), some (.lst ms), some (.lst bs), some (.int (0 + (k : Int))), e7, e8, e9, e10, e11, e12]) rfl rfl
  obtain ⟨r8, b2', p8, q8, n8⟩ := ev_next (n := n) (a := a) (b := b1') (c := c) (x := x) (ρ := [some (.loc l), some (.loc lo), some (.lst (ws.map D.str)), some (.loc (st.length + 0)), some (.lst ms), some (.lst bs), some (.int (0 + (k : Int))), some (.str w7), e8, e9, e10, e11, e12]) H hl rfl (k := 3) (by decide) (by decide)
  have y8 : ev (callN T (n + 1)) wayE [some (.loc l), some (.loc lo), some (.lst (ws.map D.str)), some (.loc (st.length + 0)), some (.lst ms), some (.lst bs), some (.int (0 + (k : Int))), some (.str w7), e8, e9, e10, e11, e12] (SX st l a c b1' x) = .ok (.lst [.str "held", .str "held", .str "seen"]) (SX st l a c b1' x) := by
    unfold wayE
    rw [ev, evs, ev, R.bind_ok, evs, ev, R.bind_ok, evs, ev, R.bind_ok, evs, R.bind_ok, R.bind_ok, R.bind_ok, R.bind_ok]
    exact made_old' (by show 3 ≤ 1000; decide)
  obtain ⟨d8, hd8, x8⟩ := lst_at y8 n8 p8 (by simpa using q8)
  obtain ⟨w8, hw8, rfl⟩ : ∃ w, (∃ h : Bool, w = if h then ("held" : Str) else "seen") ∧ d8 = .str w := by
    simp at hd8
    rcases hd8 with rfl | rfl
    · exact ⟨_, ⟨true, rfl⟩, rfl⟩
    · exact ⟨_, ⟨false, rfl⟩, rfl⟩
  obtain ⟨r9, b3', p9, q9, n9⟩ := ev_nextL (n := n) (a := a) (b := b2') (c := c) (x := x) (ρ := [some (.loc l), some (.loc lo), some (.lst (ws.map D.str)), some (.loc (st.length + 0)), some (.lst ms), some (.lst bs), some (.int (0 + (k : Int))), some (.str w7), some (.str w8), e9, e10, e11, e12]) H hl rfl (v := 5) (xs := bs) rfl b0 (by omega)
  obtain ⟨d9, hd9, y9⟩ := lst_at (ae := .var 5) (s := SX st l a c b2' x) (s1 := SX st l a c b2' x) (by simp only [ev, List.getElem?_cons_zero, List.getElem?_cons_succ]) n9 p9 q9
  obtain ⟨s9, b4', t9, u9, o9⟩ := ev_next (n := n) (a := a) (b := b3') (c := c) (x := x) (ρ := [some (.loc l), some (.loc lo), some (.lst (ws.map D.str)), some (.loc (st.length + 0)), some (.lst ms), some (.lst bs), some (.int (0 + (k : Int))), some (.str w7), some (.str w8), e9, e10, e11, e12]) H hl rfl (k := 7) (by decide) (by decide)
  have z9 : ev (callN T (n + 1)) (boxE nx) [some (.loc l), some (.loc lo), some (.lst (ws.map D.str)), some (.loc (st.length + 0)), some (.lst ms), some (.lst bs), some (.int (0 + (k : Int))), some (.str w7), some (.str w8), e9, e10, e11, e12] (SX st l a c b2' x) = .ok (.lst [mkD 0, d9, .non]) (SX st l a c b3' x) := by
    unfold boxE
    rw [ev, evs, ev_mk (j := 0) (by rw [ev]), R.bind_ok, evs, y9, R.bind_ok, evs, ev, R.bind_ok, evs, R.bind_ok, R.bind_ok, R.bind_ok, R.bind_ok]
    exact made_old' (by show 3 ≤ 1000; decide)
  have v9 : ev (callN T (n + 1)) (.bin .fdiv true (callE nx 7) (.cst (.int 3))) [some (.loc l), some (.loc lo), some (.lst (ws.map D.str)), some (.loc (st.length + 0)), some (.lst ms), some (.lst bs), some (.int (0 + (k : Int))), some (.str w7), some (.str w8), e9, e10, e11, e12] (SX st l a c b3' x) = .ok (.int (s9.fdiv 3)) (SX st l a c b4' x) := by
    rw [ev, o9, R.bind_ok, ev, R.bind_ok, fdiv3]
  have f9 : 0 ≤ s9.fdiv 3 ∧ s9.fdiv 3 < 3 := by
    rw [Int.fdiv_eq_ediv_of_nonneg _ (by decide)]
    omega
  obtain ⟨g9, hg9, x9⟩ := lst_at z9 v9 f9.1 (by show s9.fdiv 3 < 3; exact f9.2)
  have mg9 : Mk g9 := by
    simp at hg9
    rcases hg9 with rfl | rfl | rfl
    · exact .inr ⟨0, rfl⟩
    · exact hb _ hd9
    · exact .inl rfl
  obtain ⟨w10, b5', hw10, x10⟩ := word_ev (n := n) (a := a) (b := b4') (c := c) (x := x) H hl hw w0 w1 (v := 2) (ρ := [some (.loc l), some (.loc lo), some (.lst (ws.map D.str)), some (.loc (st.length + 0)), some (.lst ms), some (.lst bs), some (.int (0 + (k : Int))), some (.str w7), some (.str w8), some g9, e10, e11, e12]) rfl rfl
  obtain ⟨r11, b6', p11, q11, n11⟩ := ev_nextL (n := n) (a := a) (b := b5') (c := c) (x := x) (ρ := [some (.loc l), some (.loc lo), some (.lst (ws.map D.str)), some (.loc (st.length + 0)), some (.lst ms), some (.lst bs), some (.int (0 + (k : Int))), some (.str w7), some (.str w8), some g9, some (.str w10), e11, e12]) H hl rfl (v := 4) (xs := ms) rfl m0 (by omega)
  have y11 : ev (callN T (n + 1)) mrkE [some (.loc l), some (.loc lo), some (.lst (ws.map D.str)), some (.loc (st.length + 0)), some (.lst ms), some (.lst bs), some (.int (0 + (k : Int))), some (.str w7), some (.str w8), some g9, some (.str w10), e11, e12] (SX st l a c b5' x) = .ok (.lst (.non :: ms.drop 1)) (SX st l a c b5' x) := by
    have cd : Mi.cut ms (some 1) none = ms.drop 1 := cut_from ms (p := 1) (by decide) (by omega)
    have u1 : ev (callN T (n + 1)) (.lst true [(.cst .non)]) [some (.loc l), some (.loc lo), some (.lst (ws.map D.str)), some (.loc (st.length + 0)), some (.lst ms), some (.lst bs), some (.int (0 + (k : Int))), some (.str w7), some (.str w8), some g9, some (.str w10), e11, e12] (SX st l a c b5' x) = .ok (.lst [.non]) (SX st l a c b5' x) := by
      rw [ev, evs, ev, R.bind_ok, evs, R.bind_ok, R.bind_ok]
      exact made_old' (by show 1 ≤ 1000; decide)
    have u2 : ev (callN T (n + 1)) (.slc true (.var 4) [(.cst (.int 1))] []) [some (.loc l), some (.loc lo), some (.lst (ws.map D.str)), some (.loc (st.length + 0)), some (.lst ms), some (.lst bs), some (.int (0 + (k : Int))), some (.str w7), some (.str w8), some g9, some (.str w10), e11, e12] (SX st l a c b5' x) = .ok (.lst (ms.drop 1)) (SX st l a c b5' x) := by
      simp only [ev, evs, List.getElem?_cons_zero, List.getElem?_cons_succ, R.bind_ok, oneIntR, oneInt, slice, look_lst', cd]
      exact made_old' (by rw [List.length_drop]; omega)
    unfold mrkE
    rw [ev, u1, R.bind_ok, u2, R.bind_ok]
    simp only [binop, look_lst']
    exact made_old' (by simp; omega)
  obtain ⟨g11, hg11, x11⟩ := lst_at y11 n11 p11 (by rw [List.length_cons, List.length_drop]; omega)
  have mg11 : Mk g11 := by
    rcases List.mem_cons.mp hg11 with rfl | h
    · exact .inl rfl
    · exact hm _ (List.mem_of_mem_drop h)
  obtain ⟨v12, x12, t12⟩ := own_get (a := a) (b := b6') (c := c) (x := x) ow mg11
  have y12 : ev (callN T (n + 1)) (.mth .get true (.var 1) [(.var 11), .odc]) [some (.loc l), some (.loc lo), some (.lst (ws.map D.str)), some (.loc (st.length + 0)), some (.lst ms), some (.lst bs), some (.int (0 + (k : Int))), some (.str w7), some (.str w8), some g9, some (.str w10), some g11, e12] (SX st l a c b6' x) = .ok v12 (SX st l a c b6' x) := by
    have rc : recv .get (.loc lo) (SX st l a c b6' x) = true := by
      have c0 : (SX st l a c b6' x)[lo]? = some (.dt kvs) := sx_old ow.c ow.ne
      show ((dctAt _ _).isSome || (dttAt _ _).isSome) = true
      rw [dtt_own c0]; simp
    simp only [ev, evs, List.getElem?_cons_zero, List.getElem?_cons_succ, R.bind_ok, rc, if_true, x12]
  have z12 : ∃ (v : D) (b7' : Int), Vl v ∧ ex (callN T (n + 1)) (valS7 nx) [some (.loc l), some (.loc lo), some (.lst (ws.map D.str)), some (.loc (st.length + 0)), some (.lst ms), some (.lst bs), some (.int (0 + (k : Int))), some (.str w7), some (.str w8), some g9, some (.str w10), some g11, some v12] (SX st l a c b6' x) = .nx [some (.loc l), some (.loc lo), some (.lst (ws.map D.str)), some (.loc (st.length + 0)), some (.lst ms), some (.lst bs), some (.int (0 + (k : Int))), some (.str w7), some (.str w8), some g9, some (.str w10), some g11, some v] (SX st l a c b7' x) := by
    have cnd : ∃ kb : Bool, asBool (ev (callN T (n + 1)) (.or (.isa (.var 12) [.dict]) (.cmp .isc (.var 9) (.cst .non))) [some (.loc l), some (.loc lo), some (.lst (ws.map D.str)), some (.loc (st.length + 0)), some (.lst ms), some (.lst bs), some (.int (0 + (k : Int))), some (.str w7), some (.str w8), some g9, some (.str w10), some g11, some v12] (SX st l a c b6' x)) = .ok kb (SX st l a c b6' x) ∧ (kb = false → ∃ i : Int, v12 = .int i) := by
      rcases t12 with t | ⟨i, rfl⟩
      · refine ⟨true, ?_, fun z => by cases z⟩
        simp only [ev, List.getElem?_cons_zero, List.getElem?_cons_succ, R.bind_ok, List.any_cons, List.any_nil, t, Bool.or_false, truth, look, asBool_ok]
      · obtain ⟨kb, hk⟩ : ∃ kb : Bool, compop .isc g9 .non (SX st l a c b6' x) = .ok (.bl kb) (SX st l a c b6' x) := ⟨_, isc_non⟩
        refine ⟨kb, ?_, fun _ => ⟨i, rfl⟩⟩
        simp only [ev, List.getElem?_cons_zero, List.getElem?_cons_succ, R.bind_ok, List.any_cons, List.any_nil, isTy, Bool.or_false, truth, look, hk, asBool_ok]
    obtain ⟨kb, c1, c2⟩ := cnd
    unfold valS7
    rw [ex, c1, R.toF_ok]
    cases kb with
    | true =>
      rw [if_pos rfl, exs_cons, ex_asg, ev, R.toF_ok, F.thn_nx, exs_nil]
      exact ⟨.non, b6', .inl rfl, rfl⟩
    | false =>
      obtain ⟨i, rfl⟩ := c2 rfl
      obtain ⟨r, b7', _, _, n7⟩ := ev_next (n := n) (a := a) (b := b6') (c := c) (x := x) (ρ := [some (.loc l), some (.loc lo), some (.lst (ws.map D.str)), some (.loc (st.length + 0)), some (.lst ms), some (.lst bs), some (.int (0 + (k : Int))), some (.str w7), some (.str w8), some g9, some (.str w10), some g11, some (.int i)]) H hl rfl (k := 4) (by decide) (by decide)
      rw [if_neg (by simp), exs_cons, ex, ev, n7, R.bind_ok, ev, R.bind_ok, eq_int, asBool_ok, R.toF_ok]
      by_cases h4 : (r == 0) = true
      · rw [if_pos h4, exs_cons, ex_asg]
        simp only [ev, List.getElem?_cons_zero, List.getElem?_cons_succ, R.bind_ok, add_int]
        rw [mod_int (by decide), R.toF_ok, F.thn_nx, exs_nil, F.thn_nx, exs_nil]
        exact ⟨_, b7', .inr ⟨_, rfl⟩, rfl⟩
      · rw [if_neg h4, exs_nil, F.thn_nx, exs_nil]
        exact ⟨_, b7', .inr ⟨_, rfl⟩, rfl⟩
  obtain ⟨v, b7', hv, s7⟩ := z12
  have z13 : ∃ g, Mk g ∧ ev (callN T (n + 1)) tupE [some (.loc l), some (.loc lo), some (.lst (ws.map D.str)), some (.loc (st.length + 0)), some (.lst ms), some (.lst bs), some (.int (0 + (k : Int))), some (.str w7), some (.str w8), some g9, some (.str w10), some g11, some v] (SX st l a c b7' x) = .ok (.tup [.str w8, g9, .str w10, g, v]) (SX st l a c b7' x) := by
    obtain ⟨kb, hk⟩ : ∃ kb : Bool, compop .isc g9 .non (SX st l a c b7' x) = .ok (.bl kb) (SX st l a c b7' x) := ⟨_, isc_non⟩
    have ib : ∀ s : Store, prim .int true [.bl kb] s = .ok (.int (b2i kb)) s := fun _ => rfl
    have y : ev (callN T (n + 1)) (.lst true [(.var 11), (.cst .non)]) [some (.loc l), some (.loc lo), some (.lst (ws.map D.str)), some (.loc (st.length + 0)), some (.lst ms), some (.lst bs), some (.int (0 + (k : Int))), some (.str w7), some (.str w8), some g9, some (.str w10), some g11, some v] (SX st l a c b7' x) = .ok (.lst [g11, .non]) (SX st l a c b7' x) := by
      simp only [ev, evs, List.getElem?_cons_zero, List.getElem?_cons_succ, R.bind_ok]
      exact made_old' (by show 2 ≤ 1000; decide)
    have y2 : ev (callN T (n + 1)) (.prm .int true [(.cmp .isc (.var 9) (.cst .non))]) [some (.loc l), some (.loc lo), some (.lst (ws.map D.str)), some (.loc (st.length + 0)), some (.lst ms), some (.lst bs), some (.int (0 + (k : Int))), some (.str w7), some (.str w8), some g9, some (.str w10), some g11, some v] (SX st l a c b7' x) = .ok (.int (b2i kb)) (SX st l a c b7' x) := by
      simp only [ev, evs, List.getElem?_cons_zero, List.getElem?_cons_succ, R.bind_ok, hk, ib]
    obtain ⟨g, hg, xg⟩ := lst_at y y2 (by cases kb <;> decide) (by show b2i kb < 2; cases kb <;> decide)
    refine ⟨g, ?_, ?_⟩
    · simp at hg
      rcases hg with rfl | rfl
      · exact mg11
      · exact .inl rfl
    · unfold tupE
      rw [ev, evs, ev]
      simp only [List.getElem?_cons_zero, List.getElem?_cons_succ, R.bind_ok]
      rw [evs, ev]
      simp only [List.getElem?_cons_zero, List.getElem?_cons_succ, R.bind_ok]
      rw [evs, ev]
      simp only [List.getElem?_cons_zero, List.getElem?_cons_succ, R.bind_ok]
      rw [evs, xg, R.bind_ok, evs, ev]
      simp only [List.getElem?_cons_zero, List.getElem?_cons_succ, R.bind_ok, evs]
      rw [if_pos (small_le (b := 16000000) (by show 5 ≤ 16000000; decide) (by decide))]
  obtain ⟨g, hg, x13⟩ := z13
  have sn : Seen (.tup [.str w8, g9, .str w10, g, v]) := by
    obtain ⟨h8, rfl⟩ := hw8
    exact ⟨h8, g9, w10, g, v, rfl, mg9, hg, hv⟩
  generalize D.tup [.str w8, g9, .str w10, g, v] = seen at x13 sn
  have s8 : ex (callN T (n + 1)) (.seti (.var 3) (.var 7) tupE) [some (.loc l), some (.loc lo), some (.lst (ws.map D.str)), some (.loc (st.length + 0)), some (.lst ms), some (.lst bs), some (.int (0 + (k : Int))), some (.str w7), some (.str w8), some g9, some (.str w10), some g11, some v] (SX st l a c b7' x) = .nx [some (.loc l), some (.loc lo), some (.lst (ws.map D.str)), some (.loc (st.length + 0)), some (.lst ms), some (.lst bs), some (.int (0 + (k : Int))), some (.str w7), some (.str w8), some g9, some (.str w10), some g11, some v] (SX st l a c b7' [.dk (dkS (putS ps w7 seen))]) := by
    rw [ex, x13, R.toF_ok, ev]
    simp only [List.getElem?_cons_zero, List.getElem?_cons_succ, R.toF_ok, ev]
    rw [set_box (nm := dkS ps) (by rw [sx_at, ← hx]; rfl) (by unfold dkS; rw [List.length_map]; omega), R.toF_ok, sx_set, put_dk, ← hx]
    rfl
  refine ⟨putS ps w7 seen, b7', some (.str w7), some (.str w8), some g9, some (.str w10), some g11, some v, ?_, fun p hp => ?_, putS_len _ _, putS_one one _ _⟩
  · rw [sbody, exs_cons, ex_asg, x7, R.toF_ok, F.thn_nx]
    simp only [List.set_cons_zero, List.set_cons_succ]
    rw [exs_cons, ex_asg, x8, R.toF_ok, F.thn_nx]
    simp only [List.set_cons_zero, List.set_cons_succ]
    rw [exs_cons, ex_asg, x9, R.toF_ok, F.thn_nx]
    simp only [List.set_cons_zero, List.set_cons_succ]
    rw [exs_cons, ex_asg, x10, R.toF_ok, F.thn_nx]
    simp only [List.set_cons_zero, List.set_cons_succ]
    rw [exs_cons, ex_asg, x11, R.toF_ok, F.thn_nx]
    simp only [List.set_cons_zero, List.set_cons_succ]
    rw [exs_cons, ex_asg, y12, R.toF_ok, F.thn_nx]
    simp only [List.set_cons_zero, List.set_cons_succ]
    rw [exs_cons, s7, F.thn_nx, exs_cons, s8, F.thn_nx, exs_nil]
  · rcases putS_mem hp with h | rfl
    · exact hps p h
    · exact sn
end
section
variable {T : List Fn} {nx n : Nat} {st : Store} {l lo : Nat} {a c b : Int} {x : List Cell} {ws : List Str} {kvs : List (List L2.Key × D)}
/-- whether a mark is a box's -/
def qB (s : Store) (kvs : List (List L2.Key × D)) (d : D) : Bool := match pkD d with
  | some k => (match dval kvs k with | some v => isTy s v .dict | none => false)
  | none => false
theorem own_marks (ow : OwnAt st l lo kvs) : ∀ p ∈ kvs, ∃ j, p.1 = mkK j := fun p hp => let ⟨j, e, _⟩ := ow.e p hp; ⟨j, e⟩
theorem own_hk (ow : OwnAt st l lo kvs) : Hk kvs 0 := by
  obtain ⟨i, nm, _, e, _⟩ := ow.r
  unfold dval at e
  obtain ⟨p, hp, e2⟩ := Option.map_eq_some_iff.mp e
  have h1 := List.find?_some hp
  simp at h1
  exact ⟨p.2, by rw [← h1]; exact List.mem_of_find?_eq_some hp⟩
def mks (kvs : List (List L2.Key × D)) : List D := sortD (kvs.map fun q => tkD q.1)
theorem mks_mem (ow : OwnAt st l lo kvs) {d : D} (h : d ∈ mks kvs) : ∃ j, d = mkD j ∧ Hk kvs j := by
  obtain ⟨p, hp, rfl⟩ := List.mem_map.mp ((sortD_p _).mem_iff.mp h)
  obtain ⟨j, e⟩ := own_marks ow p hp
  exact ⟨j, by rw [e]; rfl, p.2, by rw [← e]; exact hp⟩
theorem mks_len : (mks kvs).length = kvs.length := by unfold mks; rw [(sortD_p _).length_eq, List.length_map]
theorem mks_root (ow : OwnAt st l lo kvs) : mkD 0 ∈ mks kvs := by
  obtain ⟨d, hd⟩ := own_hk ow
  exact (sortD_p _).mem_iff.mpr (List.mem_map.mpr ⟨_, hd, rfl⟩)
theorem bxcomp_ok (ow : OwnAt st l lo kvs) {W : D} {ls : Nat} {e5 e6 e7 e8 e9 e10 e12 : Option D} {cf : Nat → List D → Store → Mi.R D} :
    ev cf bxcomp [some (.loc l), some (.loc lo), some W, some (.loc ls), some (.lst (mks kvs)), e5, e6, e7, e8, e9, e10, none, e12] (SX st l a c b x) = .ok (.lst ((mks kvs).filter (qB (SX st l a c b x) kvs))) (SX st l a c b x) := by
  have c0 : (SX st l a c b x)[lo]? = some (.dt kvs) := sx_old ow.c ow.ne
  unfold bxcomp
  rw [ev_comp]
  simp only [evI, ev, List.getElem?_cons_zero, List.getElem?_cons_succ, R.bind_ok, walks]
  have lc := loopC_flt (ck := fun s => stands s (mks kvs) none) (f := cstep cf [11] [11] true [(.isa (.idx (.var 1) (.var 11)) [.dict])] (.var 11) [some (.loc l), some (.loc lo), some W, some (.loc ls), some (.lst (mks kvs)), e5, e6, e7, e8, e9, e10, none, e12]) (s := SX st l a c b x) trivial (fun d : D => d) (qB (SX st l a c b x) kvs) (fun d : D => d) (xs := mks kvs) (fun d hd => by
    obtain ⟨j, rfl, hk⟩ := mks_mem ow hd
    obtain ⟨v, hv, _⟩ := hk_val hk
    have ix := idx_own c0 hv
    have q : qB (SX st l a c b x) kvs (mkD j) = isTy (SX st l a c b x) v .dict := by
      unfold qB
      rw [pk_mk]
      simp only [hv]
    rw [q]
    unfold cstep
    simp only [bindT, if_true, put, Mi.wipe, List.set_cons_zero, List.set_cons_succ]
    simp only [evc, ev, List.getElem?_cons_zero, List.getElem?_cons_succ, R.bind_ok, R.calm_ok, ix, List.any_cons, List.any_nil, Bool.or_false, asBool_ok]
    cases isTy (SX st l a c b x) v .dict <;> simp)
  rw [List.map_id', List.map_id'] at lc
  rw [lc, R.bind_ok]
  exact made_old' (Nat.le_trans (List.length_filter_le _ _) (by rw [mks_len]; have := ow.n; omega))
theorem boxes_pos (ow : OwnAt st l lo kvs) : 0 < ((mks kvs).filter (qB (SX st l a c b x) kvs)).length := by
  obtain ⟨i, nm, ne, e, e2⟩ := ow.r
  refine List.length_pos_of_mem (a := mkD 0) (List.mem_filter.mpr ⟨mks_root ow, ?_⟩)
  have c1 : (SX st l a c b x)[i]? = some (.dk nm) := sx_old e2 ne
  unfold qB
  rw [pk_mk]
  simp only [e, isTy, c1]
theorem dkS_flat {ps : List SP} (h : ∀ p ∈ ps, Sn p.2) : flats ((dkS ps).map (·.2)) = true := by
  refine mem_flats fun d hd => ?_
  obtain ⟨q, hq, rfl⟩ := List.mem_map.mp hd
  unfold dkS at hq
  obtain ⟨p, hp, rfl⟩ := List.mem_map.mp hq
  exact (h p hp).f
theorem slots_ok {sl : Nat} (H : T[nx]? = some ⟨"_law_next", 2, 4, [], bNx⟩) (H7 : T[sl]? = some ⟨"_law_slots", 3, 13, [], slotsB nx⟩) (hl : l < st.length) (ow : OwnAt st l lo kvs) (hw : ∀ z ∈ ws, z.length ≤ 20) (w0 : 0 < ws.length) (w1 : ws.length ≤ 100) :
    ∃ ps b', callN T (n + 2) sl [.loc l, .loc lo, .lst (ws.map D.str)] (stb st l a c b) = .ok (.loc st.length) (stb st l a c b' ++ [.dk (dkS ps)]) ∧ (∀ p ∈ ps, Seen p.2) ∧ ps.length ≤ 10 ∧ One ps := by
  rw [callN_s H7 rfl]
  show ∃ ps b', leave (stb st l a c b) (exs (callN T (n + 1)) (slotsB nx) [some (.loc l), some (.loc lo), some (.lst (ws.map D.str)), none, none, none, none, none, none, none, none, none, none] (stb st l a c b)) = _ ∧ _
  have s0 : stb st l a c b = SX st l a c b [] := by unfold SX; rw [List.append_nil]
  have x1 : ev (callN T (n + 1)) (.dic []) [some (.loc l), some (.loc lo), some (.lst (ws.map D.str)), none, none, none, none, none, none, none, none, none, none] (SX st l a c b []) = .ok (.loc (st.length + 0)) (SX st l a c b [.dk (dkS [])]) := by
    rw [ev, evs, R.bind_ok]
    show R.ok (D.loc (SX st l a c b []).length) (SX st l a c b [] ++ [.dk []]) = _
    rw [sx_len, sx_app]; rfl
  have c0 : (SX st l a c b [.dk (dkS [])])[lo]? = some (.dt kvs) := sx_old ow.c ow.ne
  have x2 : ev (callN T (n + 1)) (.prm .sorted true [(.var 1)]) [some (.loc l), some (.loc lo), some (.lst (ws.map D.str)), some (.loc (st.length + 0)), none, none, none, none, none, none, none, none, none] (SX st l a c b [.dk (dkS [])]) = .ok (.lst (mks kvs)) (SX st l a c b [.dk (dkS [])]) := by
    simp only [ev, evs, List.getElem?_cons_zero, List.getElem?_cons_succ, R.bind_ok]
    exact sorted_own c0 (own_marks ow) (by have := ow.n; omega)
  have x3 := bxcomp_ok (a := a) (b := b) (c := c) (x := [.dk (dkS [])]) (W := .lst (ws.map D.str)) (ls := st.length + 0) (e5 := none) (e6 := none) (e7 := none) (e8 := none) (e9 := none) (e10 := none) (e12 := none) (cf := callN T (n + 1)) ow
  have b0 := boxes_pos (a := a) (b := b) (c := c) (x := [.dk (dkS [])]) ow
  have b1 : ((mks kvs).filter (qB (SX st l a c b [.dk (dkS [])]) kvs)).length ≤ 100 := Nat.le_trans (List.length_filter_le _ _) (by rw [mks_len]; have := ow.n; omega)
  have bm : ∀ d ∈ (mks kvs).filter (qB (SX st l a c b [.dk (dkS [])]) kvs), Mk d := fun d hd => by
    obtain ⟨j, e, _⟩ := mks_mem ow (List.mem_filter.mp hd).1
    exact .inr ⟨j, e⟩
  generalize (mks kvs).filter (qB (SX st l a c b [.dk (dkS [])]) kvs) = bs at x3 b0 b1 bm
  have mm : ∀ d ∈ mks kvs, Mk d := fun d hd => let ⟨j, e, _⟩ := mks_mem ow hd; .inr ⟨j, e⟩
  have m0 : 0 < (mks kvs).length := List.length_pos_of_mem (mks_root ow)
  have m1 : (mks kvs).length ≤ 100 := by rw [mks_len]; have := ow.n; omega
  obtain ⟨q, b2', hq, i1⟩ := rng_ev (n := n) (a := a) (b := b) (c := c) (x := [.dk (dkS [])]) (ρ := [some (.loc l), some (.loc lo), some (.lst (ws.map D.str)), some (.loc (st.length + 0)), some (.lst (mks kvs)), some (.lst bs), none, none, none, none, none, none, none]) H hl rfl (k := 4) (by decide) (by decide)
  obtain ⟨ρ', s', f1, ps, b3', k6, k7, k8, k9, k10, k11, k12, rfl, rfl, h1, h2, h3⟩ := loopF_inv (ck := fun s => stands s ((List.range q).map (fun (k : Nat) => D.int (0 + (k : Int)))) none) (f := fstep (callN T (n + 1)) [6] true (sbody nx))
    (fun t ρ s => ∃ (ps : List SP) (b3' : Int) (k6 k7 k8 k9 k10 k11 k12 : Option D), ρ = ρS l lo (st.length + 0) ws (mks kvs) bs k6 k7 k8 k9 k10 k11 k12 ∧ s = SX st l a c b3' [.dk (dkS ps)] ∧ (∀ p ∈ ps, Seen p.2) ∧ ps.length ≤ t ∧ One ps) (xs := (List.range q).map (fun (k : Nat) => D.int (0 + (k : Int)))) (k := 0) (ρ := ρS l lo (st.length + 0) ws (mks kvs) bs none none none none none none none) (s := SX st l a c b2' [.dk (dkS [])]) (fun _ _ _ _ => trivial) (fun t d hd ρ s hp => by
      obtain ⟨ps, b3', k6, k7, k8, k9, k10, k11, k12, rfl, rfl, h1, h2, h3⟩ := hp
      rw [List.getElem?_map] at hd
      obtain ⟨k', hk', rfl⟩ := Option.map_eq_some_iff.mp hd
      have hlt := (List.getElem?_eq_some_iff.mp hk').1
      rw [List.length_range] at hlt
      obtain ⟨ps', b4', e7', e8', e9', e10', e11', e12', e, g1, g2, g3⟩ := turnS (n := n) (a := a) (b := b3') (c := c) (k := k') H hl ow h1 (by omega) h3 hw w0 w1 m0 m1 mm b0 b1 bm (e6 := k6) (e7 := k7) (e8 := k8) (e9 := k9) (e10 := k10) (e11 := k11) (e12 := k12)
      exact ⟨_, _, e, ps', b4', _, e7', e8', e9', e10', e11', e12', rfl, rfl, g1, by omega, g3⟩) ⟨[], b2', none, none, none, none, none, none, none, rfl, rfl, (fun _ h => by cases h), Nat.le_refl _, List.nodup_nil⟩
  rw [List.length_map, List.length_range] at h2
  refine ⟨ps, b3', ?_, h1, by omega, h3⟩
  rw [slotsB, exs_cons, ex_asg, s0, x1, R.toF_ok, F.thn_nx]
  simp only [List.set_cons_zero, List.set_cons_succ]
  rw [exs_cons, ex_asg, x2, R.toF_ok, F.thn_nx]
  simp only [List.set_cons_zero, List.set_cons_succ]
  rw [exs_cons, ex_asg, x3, R.toF_ok, F.thn_nx]
  simp only [List.set_cons_zero, List.set_cons_succ]
  rw [exs_cons, ex_for, i1, R.toF_ok, f1, F.thn_nx, exs_cons, ex, ev]
  simp only [ρS, List.getElem?_cons_zero, List.getElem?_cons_succ, R.toF_ok, F.thn_rt, leave_rt]
  rw [← s0]
  have kp : Keeps (stb st l a c b) (SX st l a c b3' [.dk (dkS ps)]) := by
    refine ⟨by rw [sx_len, stb_len]; omega, fun i hi => ?_⟩
    rw [stb_len] at hi
    have e : (SX st l a c b3' [.dk (dkS ps)])[i]? = (stb st l a c b3')[i]? := by unfold SX; rw [List.getElem?_append_left (by rw [stb_len]; exact hi)]
    rw [e]
    have := (stb_keeps (st := st) (l := l) (a := a) (c := c) (b := b) (b' := b3')).2 i (by rw [stb_len]; exact hi)
    exact this
  unfold canon
  rw [if_pos kp]
  simp only
  rw [if_neg (by rw [stb_len]; omega), sx_at]
  simp only [List.getElem?_cons_zero]
  have cb : cbelow (stb st l a c b).length (.dk (dkS ps)) = true := flats_belows _ (dkS_flat fun p hp => (h1 p hp).sn)
  rw [if_pos cb, stb_len]
  congr 2
  unfold SX
  rw [List.take_left' (by rw [stb_len])]
end
end Sl
/-! DrL: draws over any generator; the generator of the laws that begin by _law_begun. -/
namespace Gn
open PySem PySem.Spec Mi Dr Pr
/-- the store, the generator's list at l -/
def sg (st : Store) (l : Nat) (g : List D) : Store := st.set l (.lst g)
section
variable {st : Store} {l : Nat} {g g' : List D}
theorem sg_len : (sg st l g).length = st.length := by unfold sg; simp
theorem sg_sg : sg (sg st l g) l g' = sg st l g' := by unfold sg; rw [List.set_set]
theorem sg_at (h : l < st.length) : (sg st l g)[l]? = some (.lst g) := by unfold sg; rw [List.getElem?_set_self h]
theorem sg_ne {i : Nat} (h : i ≠ l) : (sg st l g)[i]? = st[i]? := by unfold sg; rw [List.getElem?_set_ne (Ne.symm h)]
theorem sg_app {x : List Cell} (h : l < st.length) : sg (st ++ x) l g = sg st l g ++ x := by unfold sg; rw [List.set_append_left _ _ h]
theorem sg_keeps (f : flats g' = true) : Keeps (sg st l g) (sg st l g') := by
  have e : sg st l g' = (sg st l g).set l (.lst g') := sg_sg.symm
  rw [e]
  exact keeps_set f
theorem sg_canon (f : flats g' = true) {d : D} (h : flat d = true) : canon (sg st l g) d (sg st l g') = .ok d (sg st l g') := by
  rw [canon_flat (sg_keeps f) h, sg_len, List.take_of_length_le (by rw [sg_len]; exact Nat.le_refl _)]
theorem sg_canonX (f : flats g' = true) {d : D} (h : flat d = true) {x : List Cell} : canon (sg st l g) d (sg st l g' ++ x) = .ok d (sg st l g') := by
  have k : Keeps (sg st l g) (sg st l g' ++ x) := keeps_trans (sg_keeps f) keeps_app'
  rw [canon_flat k h, List.take_append_of_le_length (by rw [sg_len, sg_len]; exact Nat.le_refl _), List.take_of_length_le (by rw [sg_len, sg_len]; exact Nat.le_refl _)]
end
structure Gen (T : List Fn) (nx : Nat) (Ok : List D → Prop) : Prop where
  fl : ∀ g, Ok g → flats g = true
  nx : ∀ (n : Nat) {st : Store} {l : Nat} {g : List D} {sz : Int}, l < st.length → Ok g → 0 < sz → sz < 1000000 → ∃ r g', Ok g' ∧ 0 ≤ r ∧ r < sz ∧ callN T (n + 1) nx [.loc l, .int sz] (sg st l g) = .ok (.int r) (sg st l g')
/-! ### the second generator: two numbers -/
def Ok2 (g : List D) : Prop := ∃ a b : Int, g = [.int a, .int b]
def bNxA : List S := [.iff (.cmp .gt (.idx (.var 0) (.cst (.int 0))) (.cst (.int 0))) [.asg 3 (.bin .mod true (.idx (.var 0) (.cst (.int 0))) (.var 1)), .seti (.var 0) (.cst (.int 0)) (.bin .fdiv true (.idx (.var 0) (.cst (.int 0))) (.var 1)), .ret (.var 3)] [], .seti (.var 0) (.cst (.int 1)) (.bin .mod true (.bin .add true (.bin .mul true (.idx (.var 0) (.cst (.int 1))) (.cst (.int 48271))) (.cst (.int 11))) (.cst (.int 2147483647))), .asg 2 (.bin .mod true (.bin .mul true (.idx (.var 0) (.cst (.int 1))) (.idx (.var 0) (.cst (.int 1)))) (.cst (.int 2147483629))), .ret (.bin .mod true (.bin .fdiv true (.bin .mod true (.bin .add true (.bin .mul true (.var 2) (.var 2)) (.bin .mul true (.cst (.int 7)) (.var 2))) (.cst (.int 2147483587))) (.cst (.int 7))) (.var 1))]
theorem genA {T : List Fn} {i : Nat} (hT : T[i]? = some ⟨"_law_next", 2, 4, [], bNxA⟩) : Gen T i Ok2 where
  fl := fun g ⟨a, b, e⟩ => by rw [e]; rfl
  nx := fun n st l g sz hl ok hs hs2 => by
    obtain ⟨a, b, rfl⟩ := ok
    have m0 : ∀ x : Int, 0 ≤ x.fmod sz := fun x => Int.fmod_nonneg_of_pos _ hs
    have m1 : ∀ x : Int, x.fmod sz < sz := fun x => Int.fmod_lt_of_pos _ hs
    have n0 : sz ≠ 0 := by omega
    have n1 : sz.natAbs < 1073741824 := by omega
    have hb : ∀ a b : Int, (sg st l [.int a, .int b])[l]? = some (.lst [.int a, .int b]) := fun a b => sg_at hl
    have lk : ∀ a b : Int, index (.loc l) (.int 0) (sg st l [.int a, .int b]) = .ok (.int a) (sg st l [.int a, .int b]) ∧ index (.loc l) (.int 1) (sg st l [.int a, .int b]) = .ok (.int b) (sg st l [.int a, .int b]) :=
      fun a b => ⟨index_l (look_at (hb a b)) rfl, index_l (look_at (hb a b)) rfl⟩
    have st0 : ∀ a b v : Int, setitem (.loc l) (.int 0) (.int v) (sg st l [.int a, .int b]) = .ok () (sg st l [.int v, .int b]) := fun a b v => by
      rw [set_at (k := 0) (hb a b) rfl]
      show R.ok () (sg (sg st l [.int a, .int b]) l [.int v, .int b]) = _
      rw [sg_sg]
    have st1 : ∀ a b v : Int, setitem (.loc l) (.int 1) (.int v) (sg st l [.int a, .int b]) = .ok () (sg st l [.int a, .int v]) := fun a b v => by
      rw [set_at (k := 1) (hb a b) rfl]
      show R.ok () (sg (sg st l [.int a, .int b]) l [.int a, .int v]) = _
      rw [sg_sg]
    rw [callN_s hT rfl]
    by_cases ha : 0 < a
    · refine ⟨a.fmod sz, [.int (a.fdiv sz), .int b], ⟨_, _, rfl⟩, m0 _, m1 _, ?_⟩
      rw [← sg_canon (g := [.int a, .int b]) rfl rfl]
      simp [startE, bNxA, exs, ex, ev, evs, lk, ha, mod_int n0, fdiv_int n0 n1, st0]
    · have sn : ∀ x : Int, small64 (x.fmod 2147483647) = true := fun x => by
        have h1 := Int.fmod_nonneg_of_pos x (b := 2147483647) (by decide)
        have h2 := Int.fmod_lt_of_pos x (b := 2147483647) (by decide)
        simp [small64]; omega
      have sk : ∀ x : Int, small64 (x.fmod 2147483629) = true := fun x => by
        have h1 := Int.fmod_nonneg_of_pos x (b := 2147483629) (by decide)
        have h2 := Int.fmod_lt_of_pos x (b := 2147483629) (by decide)
        simp [small64]; omega
      have s48 : small64 48271 = true := by decide
      have s7 : small64 7 = true := by decide
      refine ⟨(((((b * 48271 + 11).fmod 2147483647 * (b * 48271 + 11).fmod 2147483647).fmod 2147483629 * ((b * 48271 + 11).fmod 2147483647 * (b * 48271 + 11).fmod 2147483647).fmod 2147483629 + 7 * ((b * 48271 + 11).fmod 2147483647 * (b * 48271 + 11).fmod 2147483647).fmod 2147483629).fmod 2147483587).fdiv 7).fmod sz, [.int a, .int ((b * 48271 + 11).fmod 2147483647)], ⟨_, _, rfl⟩, m0 _, m1 _, ?_⟩
      rw [← sg_canon (g := [.int a, .int b]) rfl rfl]
      simp [startE, bNxA, exs, ex, ev, evs, lk, ha, mod_int, n0, fdiv_int, n1, st1, mul_int, s48, s7, sn, sk]
def bBg : List S := [.asg 2 (.bin .add true (.bin .mul true (.cst (.int 7919)) (.var 1)) (.cst (.int 11))), .iff (.cmp .gt (.prm .len true [(.var 0)]) (.cst (.int 0))) [.asg 2 (.bin .add true (.prm .abs true [(.idx (.var 0) (.bin .mod true (.var 1) (.prm .len true [(.var 0)])))]) (.bin .mul true (.bin .fdiv true (.var 1) (.prm .len true [(.var 0)])) (.cst (.int 104729))))] [], .asg 3 (.cst (.int 0)), .iff (.cmp .ge (.var 2) (.bin .pow true (.cst (.int 10)) (.cst (.int 18)))) [.asg 3 (.var 2)] [], .ret (.lst false [(.var 3), (.bin .add true (.bin .add true (.bin .mod true (.var 2) (.cst (.int 2147483647))) (.bin .mul true (.cst (.int 7919)) (.var 1))) (.cst (.int 11)))])]
def bBg2 : List S := [.asg 3 (.cst (.int 0)), .iff (.cmp .ge (.var 2) (.bin .pow true (.cst (.int 10)) (.cst (.int 18)))) [.asg 3 (.var 2)] [], .ret (.lst false [(.var 3), (.bin .add true (.bin .add true (.bin .mod true (.var 2) (.cst (.int 2147483647))) (.bin .mul true (.cst (.int 7919)) (.var 1))) (.cst (.int 11)))])]
def bBg1 : S := .iff (.cmp .gt (.prm .len true [(.var 0)]) (.cst (.int 0))) [.asg 2 (.bin .add true (.prm .abs true [(.idx (.var 0) (.bin .mod true (.var 1) (.prm .len true [(.var 0)])))]) (.bin .mul true (.bin .fdiv true (.var 1) (.prm .len true [(.var 0)])) (.cst (.int 104729))))] []
theorem bBg_eq : bBg = .asg 2 (.bin .add true (.bin .mul true (.cst (.int 7919)) (.var 1)) (.cst (.int 11))) :: bBg1 :: bBg2 := rfl
theorem begun_ok {T : List Fn} {i n : Nat} (h1 : T[i]? = some ⟨"_law_begun", 2, 4, [], bBg⟩) {st : Store} {ns : List Int} {k : Nat} (hl : ns.length ≤ 63) : ∃ g, Ok2 g ∧ callN T (n + 1) i [.lst (ns.map D.int), .int k] st = .ok (.loc st.length) (st ++ [.lst g]) := by
  rw [callN_s h1 rfl]
  have p18 : ∀ (s : Store) (fz : Bool), binop .pow fz (.int 10) (.int 18) s = .ok (.int (10 ^ 18)) s := fun s fz => pow_int (by decide) (by decide) (by decide)
  have s1 : small64 104729 = true := by decide
  have s2 : small64 7919 = true := by decide
  have fin : ∀ x : Int, ∃ g, Ok2 g ∧ leave st (exs (callN T n) bBg2 [some (.lst (ns.map D.int)), some (.int k), some (.int x), none] st) = .ok (.loc st.length) (st ++ [.lst g]) := fun x => by
    have cl : ∀ a b : Int, canon st (.loc st.length) (st ++ [.lst [.int a, .int b]]) = .ok (.loc st.length) (st ++ [.lst [.int a, .int b]]) := fun a b => by
      have := canon_loc (st := st) (x := [.lst [.int a, .int b]]) (l := st.length) (xs := [.int a, .int b]) rfl (Nat.le_refl _) (by simp)
      exact this
    by_cases hx : x < 10 ^ 18
    · refine ⟨[.int 0, .int (x.fmod 2147483647 + 7919 * (k : Int) + 11)], ⟨_, _, rfl⟩, ?_⟩
      rw [← cl]
      simp only [bBg2, exs, ex, ev, evs, List.getElem?_cons_zero, List.getElem?_cons_succ, R.bind_ok, p18, ge_int, hx, decide_true, Bool.not_true, asBool_ok, R.toF_ok, Bool.false_eq_true, if_false, F.thn_nx, List.set_cons_zero, List.set_cons_succ, mod_int (show (2147483647 : Int) ≠ 0 by decide), mul_int (.inl s2), add_int]
      simp [made, PySem.sizeLine]
    · refine ⟨[.int x, .int (x.fmod 2147483647 + 7919 * (k : Int) + 11)], ⟨_, _, rfl⟩, ?_⟩
      rw [← cl]
      simp only [bBg2, exs, ex, ev, evs, List.getElem?_cons_zero, List.getElem?_cons_succ, R.bind_ok, p18, ge_int, hx, decide_false, Bool.not_false, asBool_ok, R.toF_ok, if_true, F.thn_nx, List.set_cons_zero, List.set_cons_succ, mod_int (show (2147483647 : Int) ≠ 0 by decide), mul_int (.inl s2), add_int]
      simp [made, PySem.sizeLine]
  show ∃ g, Ok2 g ∧ leave st (exs (callN T n) bBg [some (.lst (ns.map D.int)), some (.int k), none, none] st) = _
  have x1 : ev (callN T n) (.bin .add true (.bin .mul true (.cst (.int 7919)) (.var 1)) (.cst (.int 11))) [some (.lst (ns.map D.int)), some (.int k), none, none] st = .ok (.int (7919 * (k : Int) + 11)) st := by
    simp only [ev, List.getElem?_cons_zero, List.getElem?_cons_succ, R.bind_ok, mul_int (.inl s2), add_int]
  obtain ⟨x, x2⟩ : ∃ x : Int, ex (callN T n) bBg1 [some (.lst (ns.map D.int)), some (.int k), some (.int (7919 * (k : Int) + 11)), none] st = .nx [some (.lst (ns.map D.int)), some (.int k), some (.int x), none] st := by
    have c1 : asBool (ev (callN T n) (.cmp .gt (.prm .len true [(.var 0)]) (.cst (.int 0))) [some (.lst (ns.map D.int)), some (.int k), some (.int (7919 * (k : Int) + 11)), none] st) = .ok (decide ((0 : Int) < (ns.length : Int))) st := by
      simp only [ev, evs, List.getElem?_cons_zero, R.bind_ok, len_l look_lst', List.length_map, gt_int, asBool_ok]
    unfold bBg1
    rw [ex, c1, R.toF_ok]
    by_cases h0 : 0 < ns.length
    · have hm : k % ns.length < ns.length := Nat.mod_lt _ h0
      have e1 : (k : Int).fmod (ns.length : Int) = ((k % ns.length : Nat) : Int) := by
        rw [Int.fmod_eq_emod_of_nonneg _ (by omega)]
        omega
      have hn : nth (ns.map D.int) ((k % ns.length : Nat) : Int) = some (.int ns[k % ns.length]) := by
        rw [nth_nat (k := k % ns.length) (by simpa using hm) rfl]
        simp [hm]
      obtain ⟨v, ab⟩ : ∃ v : Int, ∀ s : Store, prim .abs true [.int ns[k % ns.length]] s = .ok (.int v) s := ⟨_, fun s => rfl⟩
      have x3 : ev (callN T n) (.bin .add true (.prm .abs true [(.idx (.var 0) (.bin .mod true (.var 1) (.prm .len true [(.var 0)])))]) (.bin .mul true (.bin .fdiv true (.var 1) (.prm .len true [(.var 0)])) (.cst (.int 104729)))) [some (.lst (ns.map D.int)), some (.int k), some (.int (7919 * (k : Int) + 11)), none] st = .ok (.int (v + (k : Int).fdiv (ns.length : Int) * 104729)) st := by
        simp only [ev, evs, List.getElem?_cons_zero, List.getElem?_cons_succ, R.bind_ok, len_l look_lst', List.length_map, mod_int (show (ns.length : Int) ≠ 0 by omega), e1, index_l look_lst' hn, ab, fdiv_int (show (ns.length : Int) ≠ 0 by omega) (show (ns.length : Int).natAbs < 1073741824 by omega), mul_int (.inr s1), add_int]
      refine ⟨v + (k : Int).fdiv (ns.length : Int) * 104729, ?_⟩
      have hd : decide ((0 : Int) < (ns.length : Int)) = true := decide_eq_true (by omega)
      rw [hd, if_pos rfl, exs_cons, ex_asg, x3, R.toF_ok, F.thn_nx, exs_nil]
      rfl
    · have hd : decide ((0 : Int) < (ns.length : Int)) = false := decide_eq_false (by omega)
      exact ⟨7919 * (k : Int) + 11, by rw [hd, if_neg Bool.false_ne_true, exs_nil]⟩
  obtain ⟨g, ok, e⟩ := fin x
  refine ⟨g, ok, ?_⟩
  rw [bBg_eq, exs_cons, ex_asg, x1, R.toF_ok, F.thn_nx]
  simp only [List.set_cons_zero, List.set_cons_succ]
  rw [exs_cons, x2, F.thn_nx]
  exact e
/-! ### one of a list -/
def bPk (nx : Nat) : List S := [.ret (.idx (.var 1) (.call true nx [(.var 0), (.prm .len true [(.var 1)])] []))]
section
variable {T : List Fn} {nx pk kp wd n : Nat} {st : Store} {l : Nat} {Ok : List D → Prop}
theorem pick_ok (G : Gen T nx Ok) (h : T[pk]? = some ⟨"_law_pick", 2, 2, [], bPk nx⟩) (hl : l < st.length) {g : List D} (ok : Ok g) {xs : List D} (h0 : 0 < xs.length) (h1 : xs.length ≤ 1000) (hf : ∀ x ∈ xs, flat x = true) :
    ∃ d g', Ok g' ∧ d ∈ xs ∧ callN T (n + 2) pk [.loc l, .lst xs] (sg st l g) = .ok d (sg st l g') := by
  obtain ⟨r, g', ok', p, q, e⟩ := G.nx n hl ok (sz := xs.length) (by omega) (by omega)
  obtain ⟨d, hd, di⟩ := idx_lst (xs := xs) p q
  have hm := List.mem_of_getElem? hd
  refine ⟨d, g', ok', hm, ?_⟩
  rw [callN_s h rfl]
  show leave (sg st l g) (exs (callN T (n + 1)) (bPk nx) [some (.loc l), some (.lst xs)] (sg st l g)) = _
  rw [← sg_canon (g := g) (G.fl _ ok') (hf d hm), ← leave_rt]
  simp only [bPk, exs, ex, ev, evs, List.getElem?_cons_zero, List.getElem?_cons_succ, R.bind_ok, R.toF_ok, List.append_nil, if_true, len_l look_lst', e, freeze_int, di, F.thn_rt]
theorem ev_pk (G : Gen T nx Ok) (h : T[pk]? = some ⟨"_law_pick", 2, 2, [], bPk nx⟩) (hl : l < st.length) {ρ : Mi.Env} (hρ : ρ[0]? = some (some (.loc l))) {g g1 : List D} (ok : Ok g1) {e : E} {xs : List D} (he : ev (callN T (n + 2)) e ρ (sg st l g) = .ok (.lst xs) (sg st l g1)) (h0 : 0 < xs.length) (h1 : xs.length ≤ 1000) (hf : ∀ x ∈ xs, flat x = true) :
    ∃ d g', Ok g' ∧ d ∈ xs ∧ ev (callN T (n + 2)) (.call true pk [(.var 0), e] []) ρ (sg st l g) = .ok d (sg st l g') := by
  obtain ⟨d, g', ok', hm, e'⟩ := pick_ok (n := n) G h hl ok h0 h1 hf
  refine ⟨d, g', ok', hm, ?_⟩
  simp only [ev, evs, hρ, R.bind_ok, he, List.append_nil, if_true, e']
  exact frz_flat' (hf d hm)
theorem ev_nx (G : Gen T nx Ok) (hl : l < st.length) {ρ : Mi.Env} (hρ : ρ[0]? = some (some (.loc l))) {g : List D} (ok : Ok g) {k : Nat} (k0 : 0 < k) (k1 : k ≤ 1000) :
    ∃ (r : Int) (g' : List D), Ok g' ∧ 0 ≤ r ∧ r < k ∧ ev (callN T (n + 1)) (.call true nx [(.var 0), (.cst (.int k))] []) ρ (sg st l g) = .ok (.int r) (sg st l g') := by
  obtain ⟨r, g', ok', p, q, e⟩ := G.nx n hl ok (sz := k) (by omega) (by omega)
  refine ⟨r, g', ok', p, q, ?_⟩
  simp only [ev, evs, hρ, R.bind_ok, List.append_nil, if_true, e, freeze_int]
theorem words_good (G : Gen T nx Ok) (h3 : T[kp]? = some ⟨"_law_kept", 0, 1, [], bKp⟩) (h5 : T[wd]? = some ⟨"_law_words", 2, 12, [], bWd nx kp⟩) (hl : l < st.length) {g : List D} (ok : Ok g) {m : Nat} (hm : m ≤ 9) :
    ∃ (ws : List Str) (g' : List D), Ok g' ∧ callN T (n + 2) wd [.loc l, .int m] (sg st l g) = .ok (.lst (ws.map D.str)) (sg st l g') ∧ ws.length = m ∧ (∀ w ∈ ws, Word w) ∧ ws.Nodup := by
  rw [callN_s h5 rfl]
  obtain ⟨r1, y1, ok1, p1, q1, e1⟩ := G.nx n hl ok (sz := 26) (by decide) (by decide)
  obtain ⟨r2, y2, ok2, p2, q2, e2⟩ := G.nx n hl ok1 (sz := 4) (by decide) (by decide)
  have fl : ∀ ws : List Str, flat (.lst (ws.map D.str)) = true := fun ws => by
    unfold flat
    exact mem_flats fun x hx => by obtain ⟨z, _, rfl⟩ := List.mem_map.mp hx; rfl
  show ∃ (ws : List Str) (g' : List D), Ok g' ∧ leave (sg st l g) (exs (callN T (n + 1)) (bWd nx kp) [some (.loc l), some (.int m), none, none, none, none, none, none, none, none, none, none] (sg st l g)) = _ ∧ _
  rw [bWd_eq]
  by_cases hA : r2 = 0 ∧ m < 7
  · obtain ⟨hA, hm7⟩ := hA
    subst hA
    have hm : m ≤ 6 := by omega
    have d7 : decide ((m : Int) < 7) = true := decide_eq_true (by omega)
    refine ⟨(List.range m).map (gA r1), y2, ok2, ?_, by simp, fun w hw => ?_, nodup_map fun i j hij hj e => ?_⟩
    · have f1 := fun st => evA (cf := callN T (n + 1)) (s := st) (e0 := some (.loc l)) (e4 := none) (e5 := none) (e6 := none) (e7 := none) (e8 := none) (e9 := none) (e10 := none) (e11 := none) p1 q1 hm
      have e0 : ((0 : Int) == 0) = true := rfl
      rw [← sg_canon (g := g) (G.fl _ ok2) (fl _), ← leave_rt]
      simp only [exs, ex, ev, evs, List.getElem?_cons_zero, List.getElem?_cons_succ, R.bind_ok, R.toF_ok, F.thn_nx, List.append_nil, if_true, e1, e2, freeze_int, eq_int, e0, truth_bl, lt_int, d7, asBool_ok, List.set_cons_zero, List.set_cons_succ, f1, F.thn_rt]
    · obtain ⟨k, hk, rfl⟩ := List.mem_map.mp hw
      have hk := List.mem_range.mp hk
      exact gA_word p1 q1 (by omega)
    · have := congrArg Str.length e
      simp only [gA, mkS_len, List.length_replicate] at this
      omega
  · obtain ⟨r3, y3, ok3, p3, q3, e3⟩ := G.nx n hl ok2 (sz := 6) (by decide) (by decide)
    obtain ⟨r4, y4, ok4, p4, q4, e4⟩ := G.nx n hl ok3 (sz := 1 + r3) (by omega) (by omega)
    have bll := blF_len r1 r3
    have pb : r4.toNat < (blF r1 r3).length := by omega
    have l6 : (blF r1 r3).length ≤ 6 := by omega
    have kp1 := fun st => kept_ok (n := n) h3 (st := st)
    have f1 := fun st => evB (cf := callN T (n + 1)) (s := st) (e0 := some (.loc l)) (e3 := some (.int m)) (e5 := some (.int r4)) (e6 := none) (e7 := none) (e8 := none) (e9 := none) (e10 := none) (e11 := none) p1 q1 p3 q3
    have j1 := fun st => evJ2 (l := blF r1 r3) (by omega) (f1 st)
    have g1 := fun st => evC (cf := callN T (n + 1)) (s := st) (r := r1) (e0 := some (.loc l)) (e4 := some (.int (1 + r3))) (e5 := some (.int r4)) (e6 := some (.str (mkS (blF r1 r3)))) (e7 := none) (e8 := none) (e9 := none) (e10 := none) (e11 := none) hm
    have i1 := fun st => evD (cf := callN T (n + 1)) (s := st) (sc := scF r1) (e0 := some (.loc l)) (e3 := some (.int m)) (e4 := some (.str lett)) (e9 := some (.int r1)) (e10 := some (.int (1 + r3))) (e5 := none) (e6 := none) (e7 := none) (e8 := none) hm l6 p4 (by omega)
    have o1 := fun st => (evE (cf := callN T (n + 1)) (s := st) (kp := kp) (ws := (List.range m).map fun k => wk (blF r1 r3) r4.toNat (scF r1 k)) (e0 := some (.loc l)) (e3 := some (.int m)) (e4 := some (.str lett)) (e9 := some (.int r1)) (e10 := some (.int (1 + r3))) (e11 := some (.int r4)) (e5 := some (.str (mkS (blF r1 r3)))) (e6 := some (.lst (((List.range m).map fun k => mkS [scF r1 k]).map D.str))) (e7 := none) (e8 := none) (by simp; omega) (fun w hw => by obtain ⟨k, _, rfl⟩ := List.mem_map.mp hw; rw [wk_len pb]; omega) kp1).2
    refine ⟨((List.range m).map fun k => wk (blF r1 r3) r4.toNat (scF r1 k)).map fin, y4, ok4, ?_, by simp, fun w hw => ?_, ?_⟩
    · have x3 : asBool (ev (callN T (n + 1)) (.and (.cmp .eq (.call true nx [(.var 0), (.cst (.int 4))] []) (.cst (.int 0))) (.cmp .lt (.var 1) (.cst (.int 7)))) [some (.loc l), some (.int m), some (.str lett), some (.int r1), none, none, none, none, none, none, none, none] (sg st l y1)) = .ok false (sg st l y2) := by
        by_cases h0 : r2 = 0
        · subst h0
          have d7 : decide ((m : Int) < 7) = false := decide_eq_false (by omega)
          have e0 : ((0 : Int) == 0) = true := rfl
          simp only [ev, evs, List.getElem?_cons_zero, List.getElem?_cons_succ, R.bind_ok, List.append_nil, if_true, e2, freeze_int, eq_int, e0, truth_bl, lt_int, d7, asBool_ok]
        · have t2 : (r2 == 0) = false := by simpa using h0
          simp only [ev, evs, List.getElem?_cons_zero, List.getElem?_cons_succ, R.bind_ok, List.append_nil, if_true, e2, freeze_int, eq_int, t2, truth_bl, asBool_ok]
      rw [← sg_canon (g := g) (G.fl _ ok4) (fl _), ← leave_rt]
      rw [exs_cons]
      simp only [ex, ev, evs, List.getElem?_cons_zero, List.getElem?_cons_succ, R.bind_ok, R.toF_ok, F.thn_nx, F.thn_rt, leave_rt, List.append_nil, if_true, Bool.false_eq_true, if_false, asBool_ok, truth_bl, Bool.not_true, Bool.not_false, freeze_bl, freeze_tup, freeze_lst, freeze_int, List.set_cons_zero, List.set_cons_succ, isTy, List.any_cons, List.any_nil, Bool.or_false, Bool.false_or, Bool.true_and, Bool.false_and, Bool.true_or, Bool.or_true, Bool.and_true, Bool.and_false, exs_nil]
      rw [exs_cons]
      simp only [ex, ev, evs, List.getElem?_cons_zero, List.getElem?_cons_succ, R.bind_ok, R.toF_ok, F.thn_nx, F.thn_rt, leave_rt, List.append_nil, if_true, Bool.false_eq_true, if_false, asBool_ok, truth_bl, Bool.not_true, Bool.not_false, freeze_bl, freeze_tup, freeze_lst, freeze_int, List.set_cons_zero, List.set_cons_succ, isTy, List.any_cons, List.any_nil, Bool.or_false, Bool.false_or, Bool.true_and, Bool.false_and, Bool.true_or, Bool.or_true, Bool.and_true, Bool.and_false, e1]
      rw [exs_cons, ex, x3, R.toF_ok, if_neg Bool.false_ne_true, exs_nil, F.thn_nx]
      rw [exs_cons]
      simp only [ex, ev, evs, List.getElem?_cons_zero, List.getElem?_cons_succ, R.bind_ok, R.toF_ok, F.thn_nx, F.thn_rt, leave_rt, List.append_nil, if_true, Bool.false_eq_true, if_false, asBool_ok, truth_bl, Bool.not_true, Bool.not_false, freeze_bl, freeze_tup, freeze_lst, freeze_int, List.set_cons_zero, List.set_cons_succ, isTy, List.any_cons, List.any_nil, Bool.or_false, Bool.false_or, Bool.true_and, Bool.false_and, Bool.true_or, Bool.or_true, Bool.and_true, Bool.and_false, e3, add_int]
      rw [exs_cons]
      simp only [ex, ev, evs, List.getElem?_cons_zero, List.getElem?_cons_succ, R.bind_ok, R.toF_ok, F.thn_nx, F.thn_rt, leave_rt, List.append_nil, if_true, Bool.false_eq_true, if_false, asBool_ok, truth_bl, Bool.not_true, Bool.not_false, freeze_bl, freeze_tup, freeze_lst, freeze_int, List.set_cons_zero, List.set_cons_succ, isTy, List.any_cons, List.any_nil, Bool.or_false, Bool.false_or, Bool.true_and, Bool.false_and, Bool.true_or, Bool.or_true, Bool.and_true, Bool.and_false, e4]
      rw [exs_cons]
      rw [ex_asg, j1, R.toF_ok, F.thn_nx]
      simp only [List.set_cons_zero, List.set_cons_succ]
      rw [exs_cons]
      simp only [ex, ev, evs, List.getElem?_cons_zero, List.getElem?_cons_succ, R.bind_ok, R.toF_ok, F.thn_nx, F.thn_rt, leave_rt, List.append_nil, if_true, Bool.false_eq_true, if_false, asBool_ok, truth_bl, Bool.not_true, Bool.not_false, freeze_bl, freeze_tup, freeze_lst, freeze_int, List.set_cons_zero, List.set_cons_succ, isTy, List.any_cons, List.any_nil, Bool.or_false, Bool.false_or, Bool.true_and, Bool.false_and, Bool.true_or, Bool.or_true, Bool.and_true, Bool.and_false, g1]
      rw [exs_cons]
      simp only [ex, ev, evs, List.getElem?_cons_zero, List.getElem?_cons_succ, R.bind_ok, R.toF_ok, F.thn_nx, F.thn_rt, leave_rt, List.append_nil, if_true, Bool.false_eq_true, if_false, asBool_ok, truth_bl, Bool.not_true, Bool.not_false, freeze_bl, freeze_tup, freeze_lst, freeze_int, List.set_cons_zero, List.set_cons_succ, isTy, List.any_cons, List.any_nil, Bool.or_false, Bool.false_or, Bool.true_and, Bool.false_and, Bool.true_or, Bool.or_true, Bool.and_true, Bool.and_false, i1]
      rw [exs_cons]
      simp only [ex, ev, evs, List.getElem?_cons_zero, List.getElem?_cons_succ, R.bind_ok, R.toF_ok, F.thn_nx, F.thn_rt, leave_rt, List.append_nil, if_true, Bool.false_eq_true, if_false, asBool_ok, truth_bl, Bool.not_true, Bool.not_false, freeze_bl, freeze_tup, freeze_lst, freeze_int, List.set_cons_zero, List.set_cons_succ, isTy, List.any_cons, List.any_nil, Bool.or_false, Bool.false_or, Bool.true_and, Bool.false_and, Bool.true_or, Bool.or_true, Bool.and_true, Bool.and_false, o1]
    · obtain ⟨z, hz, rfl⟩ := List.mem_map.mp hw
      obtain ⟨k, _, rfl⟩ := List.mem_map.mp hz
      exact fin_word pb l6 (blF_let _ _) (scF_let _ k)
    · rw [List.map_map]
      refine nodup_map fun i j hij hj e => ?_
      have := congrArg (fun z : Str => z.cps.toList[r4.toNat]?) e
      simp only [Function.comp, fin_at pb] at this
      exact scF_ne r1 hij (by omega) (Option.some.inj this)
end
end Gn
/-! DrM: steps of a walk, each by what is known of its parts; a def's own cells. -/
namespace Gn
open PySem PySem.Spec Mi Dr Pr
section
variable {cf : Nat → List D → Store → Mi.R D} {ρ ρ' : Mi.Env} {s s1 s2 s3 : Store}
theorem ev_tup2 {a b : E} {x y : D} (h1 : ev cf a ρ s = .ok x s1) (h2 : ev cf b ρ s1 = .ok y s2) : ev cf (.tup [a, b]) ρ s = .ok (.tup [x, y]) s2 := by
  rw [ev, evs, h1, R.bind_ok, evs, h2, R.bind_ok, evs, R.bind_ok, R.bind_ok, R.bind_ok, if_pos (small_le (b := 1000) (by show 2 ≤ 1000; decide) (by decide))]
theorem ev_tup3 {a b c : E} {x y z : D} (h1 : ev cf a ρ s = .ok x s1) (h2 : ev cf b ρ s1 = .ok y s2) (h3 : ev cf c ρ s2 = .ok z s3) : ev cf (.tup [a, b, c]) ρ s = .ok (.tup [x, y, z]) s3 := by
  rw [ev, evs, h1, R.bind_ok, evs, h2, R.bind_ok, evs, h3, R.bind_ok, evs, R.bind_ok, R.bind_ok, R.bind_ok, R.bind_ok, if_pos (small_le (b := 1000) (by show 3 ≤ 1000; decide) (by decide))]
theorem ev_tup1 {a : E} {x : D} (h1 : ev cf a ρ s = .ok x s1) : ev cf (.tup [a]) ρ s = .ok (.tup [x]) s1 := by
  rw [ev, evs, h1, R.bind_ok, evs, R.bind_ok, R.bind_ok, if_pos (small_le (b := 1000) (by show 1 ≤ 1000; decide) (by decide))]
theorem ev_cst {d : D} : ev cf (.cst d) ρ s = .ok d s := by rw [ev]
theorem ev_var {i : Nat} {d : D} (h : ρ[i]? = some (some d)) : ev cf (.var i) ρ s = .ok d s := by rw [ev, h]
theorem ret_rt {e : E} {d : D} {r : List S} (h : ev cf e ρ s = .ok d s1) : exs cf (.ret e :: r) ρ s = .rt d s1 := by rw [exs_cons, ex, h, R.toF_ok, F.thn_rt]
theorem iff_rt {c : E} {a b r : List S} {d : D} (hc : asBool (ev cf c ρ s) = .ok true s1) (ha : exs cf a ρ s1 = .rt d s2) : exs cf (.iff c a b :: r) ρ s = .rt d s2 := by rw [exs_cons, ex, hc, R.toF_ok, if_pos rfl, ha, F.thn_rt]
theorem iff_no {c : E} {a r : List S} (hc : asBool (ev cf c ρ s) = .ok false s1) : exs cf (.iff c a [] :: r) ρ s = exs cf r ρ s1 := by rw [exs_cons, ex, hc, R.toF_ok, if_neg Bool.false_ne_true, exs_nil, F.thn_nx]
theorem asg_go {i : Nat} {e : E} {d : D} {r : List S} (h : ev cf e ρ s = .ok d s1) : exs cf (.asg i e :: r) ρ s = exs cf r (ρ.set i (some d)) s1 := by rw [exs_cons, ex_asg, h, R.toF_ok, F.thn_nx]
theorem eq_k {e : E} {r k : Int} (h : ev cf e ρ s = .ok (.int r) s1) : asBool (ev cf (.cmp .eq e (.cst (.int k))) ρ s) = .ok (r == k) s1 := by rw [ev, h, R.bind_ok, ev, R.bind_ok, eq_int, asBool_ok]
theorem lt_k {e : E} {r k : Int} (h : ev cf e ρ s = .ok (.int r) s1) : asBool (ev cf (.cmp .lt e (.cst (.int k))) ρ s) = .ok (decide (r < k)) s1 := by rw [ev, h, R.bind_ok, ev, R.bind_ok, lt_int, asBool_ok]
theorem ev_slc {v k : Nat} {ws : List Str} (h : ρ[v]? = some (some (.lst (ws.map D.str)))) (hk : k ≤ ws.length) (hl : ws.length ≤ 100) : ev cf (.slc true (.var v) [] [(.cst (.int (k : Int)))]) ρ s = .ok (.lst ((ws.take k).map D.str)) s := by
  simp only [ev, evs, h, R.bind_ok, oneIntR, oneInt, slice, look_lst', cut_map']
  rw [cut_to ws (by omega) (by omega)]
  simp only [Int.toNat_natCast]
  exact made_old' (by simp; omega)
theorem ev_add {a b : E} {xs ys : List D} (h1 : ev cf a ρ s = .ok (.lst xs) s1) (h2 : ev cf b ρ s1 = .ok (.lst ys) s2) (h : xs.length + ys.length ≤ 1000) : ev cf (.bin .add true a b) ρ s = .ok (.lst (xs ++ ys)) s2 := by
  rw [ev, h1, R.bind_ok, h2, R.bind_ok]
  simp only [binop, look_lst']
  exact made_old' (by rw [List.length_append]; omega)
theorem ev_lst2 {a b : E} {x y : D} (h1 : ev cf a ρ s = .ok x s1) (h2 : ev cf b ρ s1 = .ok y s2) : ev cf (.lst true [a, b]) ρ s = .ok (.lst [x, y]) s2 := by
  rw [ev, evs, h1, R.bind_ok, evs, h2, R.bind_ok, evs, R.bind_ok, R.bind_ok, R.bind_ok]
  exact made_old' (by show 2 ≤ 1000; decide)
theorem two_ix {x y : D} {r : Int} (h0 : 0 ≤ r) {st : Store} : ∃ b : Bool, index (.lst [x, y]) (.int (r.fmod 2)) st = .ok (if b then x else y) st := by
  have p := Int.fmod_nonneg_of_pos r (b := 2) (by decide)
  have q := Int.fmod_lt_of_pos r (b := 2) (by decide)
  rcases (show r.fmod 2 = 0 ∨ r.fmod 2 = 1 by omega) with e | e
  · exact ⟨true, by rw [e]; rfl⟩
  · exact ⟨false, by rw [e]; rfl⟩
theorem ex_go {x : S} {r : List S} (h : ex cf x ρ s = .nx ρ' s1) : exs cf (x :: r) ρ s = exs cf r ρ' s1 := by rw [exs_cons, h, F.thn_nx]
theorem gt_k {e : E} {r k : Int} (h : ev cf e ρ s = .ok (.int r) s1) : asBool (ev cf (.cmp .gt e (.cst (.int k))) ρ s) = .ok (decide (k < r)) s1 := by rw [ev, h, R.bind_ok, ev, R.bind_ok, gt_int, asBool_ok]
theorem iff_go {c : E} {a b r : List S} {ρ1 : Mi.Env} (hc : asBool (ev cf c ρ s) = .ok true s1) (ha : exs cf a ρ s1 = .nx ρ1 s2) : exs cf (.iff c a b :: r) ρ s = exs cf r ρ1 s2 := by rw [exs_cons, ex, hc, R.toF_ok, if_pos rfl, ha, F.thn_nx]
theorem for_go {tg : List Nat} {one : Bool} {it : E} {b r : List S} {w : List D × Option Src} {ρ1 : Mi.Env} (hi : evI cf it ρ s = .ok w s1) (hf : loopF (fun s => stands s w.1 w.2) (fstep cf tg one b) w.1 ρ s1 = .nx ρ1 s2) : exs cf (.forr tg one it b :: r) ρ s = exs cf r ρ1 s2 := by rw [exs_cons, ex_for, hi, R.toF_ok, hf, F.thn_nx]
end
theorem strs_list' : ∀ {xs : List D}, (∀ d ∈ xs, ∃ z : Str, d = .str z) → ∃ zs : List Str, xs = zs.map D.str
  | [], _ => ⟨[], rfl⟩
  | x :: xs, h => by
    obtain ⟨z, rfl⟩ := h x (.head _)
    obtain ⟨zs, rfl⟩ := strs_list' (xs := xs) fun d hd => h d (.tail _ hd)
    exact ⟨z :: zs, rfl⟩
theorem mem_ix {xs : List D} {P : D → Prop} (h : ∀ (j : Nat) (d : D), xs[j]? = some d → P d) : ∀ d ∈ xs, P d := fun d hd => by
  obtain ⟨j, hj⟩ := List.mem_iff_getElem?.mp hd
  exact h j d hj
/-- the store: the caller's, the def's own cells behind -/
def SQ (st : Store) (cs : List Cell) (l : Nat) (g : List D) : Store := sg (st ++ cs) l g
section
variable {st : Store} {l : Nat} {g : List D} {cs : List Cell}
theorem sq_nil : SQ st [] l g = sg st l g := by unfold SQ; rw [List.append_nil]
theorem sq_eq (hl : l < st.length) : SQ st cs l g = sg st l g ++ cs := sg_app hl
theorem sq_len : (SQ st cs l g).length = st.length + cs.length := by unfold SQ; rw [sg_len, List.length_append]
theorem sq_at (hl : l < st.length) {i : Nat} : (SQ st cs l g)[st.length + i]? = cs[i]? := by
  rw [sq_eq hl, List.getElem?_append_right (by rw [sg_len]; omega), sg_len]
  congr 1
  omega
theorem sq_set (hl : l < st.length) {i : Nat} {c : Cell} : (SQ st cs l g).set (st.length + i) c = SQ st (cs.set i c) l g := by
  rw [sq_eq hl, sq_eq hl, List.set_append_right _ _ (by rw [sg_len]; omega), sg_len]
  congr 2
  omega
theorem sq_push (hl : l < st.length) {c : Cell} : SQ st cs l g ++ [c] = SQ st (cs ++ [c]) l g := by rw [sq_eq hl, sq_eq hl, List.append_assoc]
theorem sq_new (hl : l < st.length) {ds : List D} (h : ds.length ≤ 1000) : made false ds (SQ st cs l g) = .ok (.loc (st.length + cs.length)) (SQ st (cs ++ [.lst ds]) l g) := by rw [made_new' h, sq_len, sq_push hl]
theorem exp_app {cf : Nat → List D → Store → Mi.R D} {ρ : Mi.Env} {s s1 : Store} {v L : Nat} {xs0 xs : List D} {e : E} {d : D} {r : List S} (hv : ρ[v]? = some (some (.loc L))) (hc : s[L]? = some (.lst xs0)) (he : ev cf e ρ s = .ok d s1) (hc1 : s1[L]? = some (.lst xs)) (hl : xs.length ≤ 1000) :
    exs cf (.exp (.mth .append true (.var v) [e]) :: r) ρ s = exs cf r ρ (s1.set L (.lst (xs ++ [d]))) := by
  have rc : recv .append (.loc L) s = true := by simp only [recv, isLc, hc]
  have hz : xs.length < sizeLine := Nat.lt_of_le_of_lt hl (by rw [sizeLine_eq]; decide)
  rw [exs_cons, ex, ev, ev_var hv, R.bind_ok, if_pos rc, evs, he, R.bind_ok, evs, R.bind_ok, R.bind_ok]
  simp only [meth, mAppend, onL, hc1, if_pos hz, R.toF_ok, F.thn_nx]
theorem nin_any {d : D} {xs : List D} {s : Store} {L : Nat} (h : s[L]? = some (.lst xs)) (hd : look s d = d) (p : Mi.plain d = true) (q : ∀ x ∈ xs, Mi.plain x = true) (k : dep d ≤ 60) : ∃ b, compop .nin d (.loc L) s = .ok (.bl b) s := by
  have e : (Mi.plain d && xs.all fun x => comparable x d) = true := by
    simp only [Bool.and_eq_true, List.all_eq_true, p, true_and]
    intro x hx
    simp only [comparable, q x hx, p, Bool.true_and, decide_eq_true_eq]
    omega
  refine ⟨!(xs.any fun x => eqv x d), ?_⟩
  simp only [compop, member, look_at h, hd, inseq, e, if_true, Option.map_some, boolR]
end
section
variable {st : Store} {cs : List Cell}
theorem ca_at {i : Nat} : (st ++ cs)[st.length + i]? = cs[i]? := by
  rw [List.getElem?_append_right (by omega)]
  congr 1
  omega
theorem ca_set {i : Nat} {c : Cell} : (st ++ cs).set (st.length + i) c = st ++ cs.set i c := by
  rw [List.set_append_right _ _ (by omega)]
  congr 2
  omega
theorem ca_new {ds : List D} (h : ds.length ≤ 1000) : made false ds (st ++ cs) = .ok (.loc (st.length + cs.length)) (st ++ (cs ++ [.lst ds])) := by rw [made_new' h, List.length_append, List.append_assoc]
theorem ca_canon {d : D} (h : Mi.flat d = true) : canon st d (st ++ cs) = .ok d st := by rw [canon_flat keeps_app' h, List.take_left]
theorem exp_ext {cf : Nat → List D → Store → Mi.R D} {ρ : Mi.Env} {s s1 : Store} {v L : Nat} {xs0 xs ys : List D} {e : E} {d : D} {r : List S} (hv : ρ[v]? = some (some (.loc L))) (hc : s[L]? = some (.lst xs0)) (he : ev cf e ρ s = .ok d s1) (hi : items s1 d = some ys) (hc1 : s1[L]? = some (.lst xs)) (hl : xs.length + ys.length ≤ 1000) :
    exs cf (.exp (.mth .extend true (.var v) [e]) :: r) ρ s = exs cf r ρ (s1.set L (.lst (xs ++ ys))) := by
  have rc : recv .extend (.loc L) s = true := by simp only [recv, isLc, hc]
  have hz : xs.length + ys.length ≤ sizeLine := Nat.le_trans hl (by rw [sizeLine_eq]; decide)
  rw [exs_cons, ex, ev, ev_var hv, R.bind_ok, if_pos rc, evs, he, R.bind_ok, evs, R.bind_ok, R.bind_ok]
  simp only [meth, mExtend, onL, hc1, hi, if_pos hz, R.toF_ok, F.thn_nx]
end
theorem loop_find {α : Type} {ck : Store → Prop} {f : D → Mi.Env → Store → F} {s : Store} (hc : ck s) (enc : α → D) (free : α → Bool) (res : α → D) (I : Mi.Env → Prop) : ∀ {xs : List α} {ρ : Mi.Env}, (∀ x ∈ xs, ∀ ρ, I ρ → ∃ ρ', f (enc x) ρ s = (if free x then .rt (res x) s else .nx ρ' s) ∧ I ρ') → I ρ →
    ∃ ρ', loopF ck f (xs.map enc) ρ s = (match xs.find? free with | some x => .rt (res x) s | none => .nx ρ' s) ∧ I ρ'
  | [], ρ, _, h => ⟨ρ, by rw [List.map_nil, loopF, if_pos hc]; rfl, h⟩
  | x :: xs, ρ, hf, h => by
    obtain ⟨ρ1, e1, h1⟩ := hf x (.head _) ρ h
    obtain ⟨ρ2, e2, h2⟩ := loop_find hc enc free res I (xs := xs) (fun y hy => hf y (.tail _ hy)) h1
    refine ⟨ρ2, ?_, h2⟩
    rw [List.map_cons, loopF, if_pos hc, e1, List.find?_cons]
    cases free x with
    | true => rfl
    | false => exact e2
section
variable {T : List Fn} {nx pk n : Nat} {st : Store} {l : Nat} {g : List D} {ws : List Str} {Ok : List D → Prop}
theorem str_fl (ws : List Str) : ∀ x ∈ ws.map D.str, Mi.flat x = true := fun x hx => by obtain ⟨z, _, rfl⟩ := List.mem_map.mp hx; rfl
/-- a word is picked -/
theorem pk_w (G : Gen T nx Ok) (h : T[pk]? = some ⟨"_law_pick", 2, 2, [], bPk nx⟩) (hl : l < st.length) {ρ : Mi.Env} (hρ : ρ[0]? = some (some (.loc l))) {g1 : List D} (ok : Ok g1) {e : E} (he : ev (callN T (n + 2)) e ρ (sg st l g) = .ok (.lst (ws.map D.str)) (sg st l g1)) (h0 : 0 < ws.length) (h1 : ws.length ≤ 1000) :
    ∃ (w : Str) (g' : List D), Ok g' ∧ w ∈ ws ∧ ev (callN T (n + 2)) (.call true pk [(.var 0), e] []) ρ (sg st l g) = .ok (.str w) (sg st l g') := by
  obtain ⟨d, g', ok', hm, x⟩ := ev_pk (n := n) G h hl hρ ok he (by simpa using h0) (by simpa using h1) (str_fl ws)
  obtain ⟨w, hw, rfl⟩ := List.mem_map.mp hm
  exact ⟨w, g', ok', hw, x⟩
/-- what a def gives back -/
theorem back (G : Gen T nx Ok) {fn : Fn} {k : Nat} {ds : List D} {d : D} {g' : List D} (hT : T[k]? = some fn) (ha : ds.length = fn.np) (ok : Ok g') (f : Mi.flat d = true) (h : exs (callN T n) fn.body (startE fn ds) (sg st l g) = .rt d (sg st l g')) : callN T (n + 1) k ds (sg st l g) = .ok d (sg st l g') := by
  rw [callN_s hT ha, h, leave_rt]
  exact sg_canon (G.fl _ ok) f
theorem backX (G : Gen T nx Ok) {fn : Fn} {k : Nat} {ds : List D} {d : D} {g' : List D} {x : List Cell} (hT : T[k]? = some fn) (ha : ds.length = fn.np) (ok : Ok g') (f : Mi.flat d = true) (h : exs (callN T n) fn.body (startE fn ds) (sg st l g) = .rt d (sg st l g' ++ x)) : callN T (n + 1) k ds (sg st l g) = .ok d (sg st l g') := by
  rw [callN_s hT ha, h, leave_rt]
  exact sg_canonX (G.fl _ ok) f
theorem rng_k (G : Gen T nx Ok) (hl : l < st.length) {ρ : Mi.Env} (h0 : ρ[0]? = some (some (.loc l))) (ok : Ok g) {k : Nat} (k0 : 0 < k) (k1 : k ≤ 1000) : ∃ (q : Nat) (g' : List D), Ok g' ∧ q < k ∧ evI (callN T (n + 1)) (.iRng [(.call true nx [(.var 0), (.cst (.int k))] [])]) ρ (sg st l g) = .ok ((List.range q).map (fun (k : Nat) => D.int (0 + (k : Int))), none) (sg st l g') := by
  obtain ⟨r, g', ok', p, q, e⟩ := ev_nx (n := n) G hl h0 ok k0 k1
  obtain ⟨m, rfl⟩ := Int.eq_ofNat_of_zero_le p
  refine ⟨m, g', ok', by omega, iRng_ev (ds := [.int (m : Int)]) ?_ (rangeD1 (inR m (by omega)))⟩
  rw [evs, e, R.bind_ok, evs, R.bind_ok]
theorem tup_loc {s : Store} {L : Nat} {xs : List D} {cf : Nat → List D → Store → Mi.R D} {ρ : Mi.Env} {v : Nat} (hv : ρ[v]? = some (some (.loc L))) (h : s[L]? = some (.lst xs)) : ev cf (.prm .tuple true [(.var v)]) ρ s = .ok (.tup xs) s := by
  simp only [ev, evs, hv, R.bind_ok, prim, items, look_at h]
end
end Gn
namespace K15
open PySem PySem.Spec PyProof.Rows L2 Mi
abbrev pw : Program := PySem.Challenge.pw_stillso_k15_guards
def topS (i : Nat) : Stmt := pw.main.body.getD i (.Pass ⟨0, 0, 0, 0⟩)
def b0 : List S := [.forr [2, 3] false (.iSeq (.var 0)) [.iff (.cmp .eq (.var 2) (.var 1)) [.ret (.var 3)] []], .ret (.cst .non)]
def m0 : MDef := ⟨⟨("has", none), "has", "has", defArgs (topS 1), defBody (topS 1), defScope (topS 1), [], []⟩, ["slots", "slot", "own", "seen"], ["slots", "slot"], ⟨"has", 2, 4, [], b0⟩⟩
def b1 : List S := [.iff (.cmp .isc (.var 1) (.cst .non)) [.ret (.cst (.bl true))] [], .asg 2 (.call true 0 [(.var 0), (.idx (.var 1) (.cst (.int 0)))] []), .iff (.cmp .eq (.idx (.var 1) (.cst (.int 1))) (.cst (.str "as"))) [.asg 3 (.call true 0 [(.var 0), (.idx (.var 1) (.cst (.int 2)))] []), .ret (.and (.cmp .isn (.var 2) (.cst .non)) (.and (.cmp .isn (.var 3) (.cst .non)) (.cmp .eq (.slc true (.var 2) [(.cst (.int 1))] []) (.slc true (.var 3) [(.cst (.int 1))] []))))] [], .ret (.cmp .eq (.and (.cmp .isn (.var 2) (.cst .non)) (.cmp .isn (.idx (.var 2) (.cst (.int 3))) (.cst .non))) (.cmp .eq (.idx (.var 1) (.cst (.int 1))) (.cst (.str "there"))))]
def m1 : MDef := ⟨⟨("guard_holds", none), "guard_holds", "guard_holds", defArgs (topS 3), defBody (topS 3), defScope (topS 3), [], []⟩, ["slots", "guard", "seen", "other"], ["slots", "guard"], ⟨"guard_holds", 2, 4, [], b1⟩⟩
def b2 : List S := [.asg 2 (.bin .add true (.bin .mul true (.cst (.int 7919)) (.var 1)) (.cst (.int 11))), .iff (.cmp .gt (.prm .len true [(.var 0)]) (.cst (.int 0))) [.asg 2 (.bin .add true (.prm .abs true [(.idx (.var 0) (.bin .mod true (.var 1) (.prm .len true [(.var 0)])))]) (.bin .mul true (.bin .fdiv true (.var 1) (.prm .len true [(.var 0)])) (.cst (.int 104729))))] [], .asg 3 (.cst (.int 0)), .iff (.cmp .ge (.var 2) (.bin .pow true (.cst (.int 10)) (.cst (.int 18)))) [.asg 3 (.var 2)] [], .ret (.lst false [(.var 3), (.bin .add true (.bin .add true (.bin .mod true (.var 2) (.cst (.int 2147483647))) (.bin .mul true (.cst (.int 7919)) (.var 1))) (.cst (.int 11)))])]
def m2 : MDef := ⟨⟨("_law_begun", none), "_law_begun", "_law_begun", defArgs (topS 5), defBody (topS 5), defScope (topS 5), [], []⟩, ["_law_script", "_law_k", "_law_cell", "_law_digits"], ["_law_script", "_law_k"], ⟨"_law_begun", 2, 4, [], b2⟩⟩
def b3 : List S := [.iff (.cmp .gt (.idx (.var 0) (.cst (.int 0))) (.cst (.int 0))) [.asg 3 (.bin .mod true (.idx (.var 0) (.cst (.int 0))) (.var 1)), .seti (.var 0) (.cst (.int 0)) (.bin .fdiv true (.idx (.var 0) (.cst (.int 0))) (.var 1)), .ret (.var 3)] [], .seti (.var 0) (.cst (.int 1)) (.bin .mod true (.bin .add true (.bin .mul true (.idx (.var 0) (.cst (.int 1))) (.cst (.int 48271))) (.cst (.int 11))) (.cst (.int 2147483647))), .asg 2 (.bin .mod true (.bin .mul true (.idx (.var 0) (.cst (.int 1))) (.idx (.var 0) (.cst (.int 1)))) (.cst (.int 2147483629))), .ret (.bin .mod true (.bin .fdiv true (.bin .mod true (.bin .add true (.bin .mul true (.var 2) (.var 2)) (.bin .mul true (.cst (.int 7)) (.var 2))) (.cst (.int 2147483587))) (.cst (.int 7))) (.var 1))]
def m3 : MDef := ⟨⟨("_law_next", none), "_law_next", "_law_next", defArgs (topS 6), defBody (topS 6), defScope (topS 6), [], []⟩, ["_law_state", "_law_size", "_law_mixed", "_law_digit"], ["_law_state", "_law_size"], ⟨"_law_next", 2, 4, [], b3⟩⟩
def b4 : List S := [.ret (.idx (.var 1) (.call true 3 [(.var 0), (.prm .len true [(.var 1)])] []))]
def m4 : MDef := ⟨⟨("_law_pick", none), "_law_pick", "_law_pick", defArgs (topS 7), defBody (topS 7), defScope (topS 7), [], []⟩, ["_law_state", "_law_some"], ["_law_state", "_law_some"], ⟨"_law_pick", 2, 2, [], b4⟩⟩
def b5 : List S := [.asg 0 (.cst (.str "again alike as at blame box by cover end few free grip hand if kept least link look")), .asg 0 (.bin .add true (.var 0) (.cst (.str " make move name named none rely room rows run safe sheet sure there to uses worth"))), .ret (.mth .split true (.bin .add true (.var 0) (.cst (.str " write"))) [(.cst (.str " "))])]
def m5 : MDef := ⟨⟨("_law_kept", none), "_law_kept", "_law_kept", defArgs (topS 8), defBody (topS 8), defScope (topS 8), [], []⟩, ["_law_some"], [], ⟨"_law_kept", 0, 1, [], b5⟩⟩
def b6 : List S := [.asg 2 (.cst (.str "abcdefghijklmnopqrstuvwxyz")), .asg 3 (.call true 3 [(.var 0), (.cst (.int 26))] []), .iff (.and (.cmp .eq (.call true 3 [(.var 0), (.cst (.int 4))] []) (.cst (.int 0))) (.cmp .lt (.var 1) (.cst (.int 7)))) [.ret (.comp true [9] [9] true (.iRng [(.var 1)]) [] (.bin .mul true (.idx (.var 2) (.var 3)) (.bin .add true (.cst (.int 1)) (.var 9))))] [], .asg 4 (.bin .add true (.cst (.int 1)) (.call true 3 [(.var 0), (.cst (.int 6))] [])), .asg 5 (.call true 3 [(.var 0), (.var 4)] []), .asg 6 (.mth .join true (.cst (.str "")) [(.comp true [9] [9] true (.iRng [(.var 4)]) [] (.idx (.var 2) (.bin .mod true (.bin .add true (.var 3) (.bin .mul true (.cst (.int 7)) (.var 9))) (.cst (.int 26)))))]), .asg 7 (.comp true [9] [9] true (.iRng [(.var 1)]) [] (.idx (.var 2) (.bin .mod true (.bin .add true (.bin .add true (.var 3) (.cst (.int 5))) (.bin .mul true (.cst (.int 3)) (.var 9))) (.cst (.int 26))))), .asg 8 (.comp true [10] [10] true (.iSeq (.var 7)) [] (.bin .add true (.bin .add true (.slc true (.var 6) [] [(.var 5)]) (.var 10)) (.slc true (.var 6) [(.bin .add true (.var 5) (.cst (.int 1)))] []))), .ret (.comp true [11] [11] true (.iSeq (.var 8)) [] (.bin .add true (.var 11) (.bin .mul true (.cst (.str "z")) (.prm .int true [(.cmp .inn (.var 11) (.call true 5 [] []))]))))]
def m6 : MDef := ⟨⟨("_law_words", none), "_law_words", "_law_words", defArgs (topS 9), defBody (topS 9), defScope (topS 9), [], []⟩, ["_law_state", "_law_size", "_law_letters", "_law_shift", "_law_long", "_law_place", "_law_base", "_law_signs", "_law_found", "_law_k", "_law_sign", "_law_word"], ["_law_state", "_law_size"], ⟨"_law_words", 2, 12, [], b6⟩⟩
def b7 : List S := [.asg 2 (.comp true [8] [8] true (.iRng [(.bin .add true (.cst (.int 1)) (.call true 3 [(.var 0), (.cst (.int 3))] []))]) [] (.tup [(.neg (.cst (.int 1))), (.bin .add true (.cst (.int 1)) (.var 8))])), .asg 3 (.comp true [8] [8] true (.iRng [(.call true 3 [(.var 0), (.cst (.int 3))] [])]) [] (.tup [(.neg (.cst (.int 1))), (.bin .add true (.cst (.int 10)) (.bin .mul true (.cst (.int 5)) (.var 8)))])), .asg 4 (.comp false [5] [5] true (.iSeq (.var 2)) [] (.tup [(.var 5), (.tup [(.cst (.str "sheet")), (.call true 4 [(.var 0), (.lst true [(.cst (.int 0)), (.cst (.int 5)), (.cst (.int 7)), (.cst (.int 999))])] [])])])), .forr [5] true (.iSeq (.var 3)) [.asg 6 (.comp false [7] [7] true (.iSeq (.prm .sorted true [(.slc true (.var 1) [] [(.cst (.int 3))])])) [(.cmp .eq (.call true 3 [(.var 0), (.cst (.int 2))] []) (.cst (.int 0)))] (.tup [(.var 7), (.call true 4 [(.var 0), (.var 2)] [])])), .exp (.mth .append true (.var 4) [(.tup [(.var 5), (.tup [(.cst (.str "box")), (.prm .tuple true [(.var 6)])])])])], .asg 6 (.dic []), .forr [7, 5] false (.iZip (.rev true (.var 1)) (.var 3)) [.iff (.cmp .gt (.call true 3 [(.var 0), (.cst (.int 4))] []) (.cst (.int 0))) [.seti (.var 6) (.var 7) (.var 5)] []], .forr [7] true (.iSeq (.var 1)) [.iff (.and (.cmp .nin (.var 7) (.var 6)) (.cmp .gt (.call true 3 [(.var 0), (.cst (.int 3))] []) (.cst (.int 0)))) [.seti (.var 6) (.var 7) (.call true 4 [(.var 0), (.var 2)] [])] []], .ret (.bin .add true (.tup [(.tup [(.tup [(.neg (.cst (.int 1))), (.cst (.int 0))]), (.tup [(.cst (.str "box")), (.prm .tuple true [(.sit (.var 6))])])])]) (.prm .tuple true [(.var 4)]))]
def m7 : MDef := ⟨⟨("_law_room", none), "_law_room", "_law_room", defArgs (topS 10), defBody (topS 10), defScope (topS 10), [], []⟩, ["_law_state", "_law_words_here", "_law_sheets", "_law_boxes", "_law_things", "_law_mark", "_law_names", "_law_word", "_law_k"], ["_law_state", "_law_words_here"], ⟨"_law_room", 2, 9, [], b7⟩⟩
def b8 : List S := [.asg 3 (.call true 4 [(.var 0), (.lst true [(.cst (.str "seen")), (.cst (.str "held"))])] []), .asg 4 (.comp true [7, 8] [7, 8] false (.iSeq (.var 1)) [(.cmp .eq (.idx (.var 8) (.cst (.int 0))) (.cst (.str "box")))] (.var 7)), .asg 5 (.comp true [7, 8] [7, 8] false (.iSeq (.var 1)) [(.cmp .ne (.var 7) (.tup [(.neg (.cst (.int 1))), (.cst (.int 0))]))] (.var 7)), .asg 6 (.call true 4 [(.var 0), (.var 2)] []), .iff (.cmp .eq (.call true 3 [(.var 0), (.cst (.int 5))] []) (.cst (.int 0))) [.ret (.tup [(.var 3), (.cst .non), (.var 6), (.cst .non), (.cst .non)])] [], .asg 7 (.call true 4 [(.var 0), (.bin .add true (.lst true [(.cst .non)]) (.var 5))] []), .asg 8 (.mth .get true (.prm .dict true [(.var 1)]) [(.var 7)]), .iff (.and (.cmp .isn (.var 7) (.cst .non)) (.cmp .eq (.idx (.var 8) (.cst (.int 0))) (.cst (.str "box")))) [.ret (.tup [(.var 3), (.tup [(.neg (.cst (.int 1))), (.cst (.int 0))]), (.var 6), (.var 7), (.cst .non)])] [], .asg 9 (.cst .non), .iff (.cmp .isn (.var 7) (.cst .non)) [.asg 9 (.call true 4 [(.var 0), (.lst true [(.idx (.var 8) (.cst (.int 1))), (.idx (.var 8) (.cst (.int 1))), (.cst (.int 0)), (.cst (.int 5)), (.cst (.int 998))])] [])] [], .ret (.tup [(.var 3), (.call true 4 [(.var 0), (.var 4)] []), (.var 6), (.var 7), (.var 9)])]
def m8 : MDef := ⟨⟨("_law_seen", none), "_law_seen", "_law_seen", defArgs (topS 11), defBody (topS 11), defScope (topS 11), [], []⟩, ["_law_state", "_law_room_here", "_law_words_here", "_law_way", "_law_boxes", "_law_marks", "_law_word", "_law_mark", "_law_content", "_law_value"], ["_law_state", "_law_room_here", "_law_words_here"], ⟨"_law_seen", 3, 10, [], b8⟩⟩
def b9 : List S := [.asg 3 (.dic []), .forr [4] true (.iSeq (.slc true (.var 2) [] [(.cst (.int 3))])) [.iff (.cmp .gt (.call true 3 [(.var 0), (.cst (.int 4))] []) (.cst (.int 0))) [.seti (.var 3) (.var 4) (.call true 8 [(.var 0), (.var 1), (.var 2)] [])] []], .asg 5 (.prm .sorted true [(.var 3)]), .iff (.and (.cmp .gt (.prm .len true [(.var 5)]) (.cst (.int 1))) (.cmp .eq (.call true 3 [(.var 0), (.cst (.int 3))] []) (.cst (.int 0)))) [.seti (.var 3) (.idx (.var 5) (.cst (.int 1))) (.bin .add true (.tup [(.call true 4 [(.var 0), (.lst true [(.cst (.str "seen")), (.cst (.str "held"))])] [])]) (.slc true (.idx (.var 3) (.idx (.var 5) (.cst (.int 0)))) [(.cst (.int 1))] []))] [], .ret (.prm .tuple true [(.sit (.var 3))])]
def m9 : MDef := ⟨⟨("_law_slots", none), "_law_slots", "_law_slots", defArgs (topS 12), defBody (topS 12), defScope (topS 12), [], []⟩, ["_law_state", "_law_room_here", "_law_words_here", "_law_found", "_law_slot", "_law_some"], ["_law_state", "_law_room_here", "_law_words_here"], ⟨"_law_slots", 3, 6, [], b9⟩⟩
def b10 : List S := [.iff (.cmp .isc (.var 1) (.cst .non)) [.ret (.cst (.bl true))] [], .asg 2 (.prm .dict true [(.var 0)]), .asg 3 (.mth .get true (.var 2) [(.idx (.var 1) (.cst (.int 0)))]), .iff (.cmp .eq (.idx (.var 1) (.cst (.int 1))) (.cst (.str "as"))) [.ret (.and (.cmp .inn (.idx (.var 1) (.cst (.int 0))) (.var 2)) (.and (.cmp .inn (.idx (.var 1) (.cst (.int 2))) (.var 2)) (.cmp .eq (.slc true (.var 3) [(.cst (.int 1))] []) (.slc true (.idx (.var 2) (.idx (.var 1) (.cst (.int 2)))) [(.cst (.int 1))] []))))] [], .asg 4 (.and (.cmp .inn (.idx (.var 1) (.cst (.int 0))) (.var 2)) (.cmp .isn (.idx (.var 3) (.cst (.int 3))) (.cst .non))), .ret (.ite (.cmp .eq (.idx (.var 1) (.cst (.int 1))) (.cst (.str "there"))) (.var 4) (.not (.var 4)))]
def m10 : MDef := ⟨⟨("_law_guarded", none), "_law_guarded", "_law_guarded", defArgs (topS 13), defBody (topS 13), defScope (topS 13), [], []⟩, ["_law_slots_here", "_law_guard", "_law_own", "_law_seen_here", "_law_there"], ["_law_slots_here", "_law_guard"], ⟨"_law_guarded", 2, 5, [], b10⟩⟩
def b11 : List S := [.iff (.cmp .lt (.prm .len true [(.var 1)]) (.cst (.int 2))) [.ret (.var 1)] [], .asg 2 (.prm .list false [(.idx (.idx (.var 1) (.cst (.int 0))) (.cst (.int 1)))]), .asg 3 (.call true 3 [(.var 0), (.cst (.int 5))] []), .iff (.and (.cmp .gt (.var 3) (.cst (.int 2))) (.cmp .isc (.idx (.var 2) (.var 3)) (.cst .non))) [.asg 3 (.cst (.int 0))] [], .asg 4 (.ite (.cmp .isc (.idx (.var 2) (.cst (.int 1))) (.cst .non)) (.tup [(.neg (.cst (.int 1))), (.cst (.int 0))]) (.tup [(.cst (.int 0)), (.cst (.int 1))])), .seti (.var 2) (.var 3) (.idx (.lst true [(.idx (.lst true [(.cst (.str "seen")), (.cst (.str "held"))]) (.prm .int true [(.cmp .eq (.idx (.var 2) (.cst (.int 0))) (.cst (.str "seen")))])), (.var 4), (.idx (.lst true [(.cst (.str "zq")), (.cst (.str "zr"))]) (.prm .int true [(.cmp .eq (.idx (.var 2) (.cst (.int 2))) (.cst (.str "zq")))])), (.tup [(.cst (.int 0)), (.cst (.int 0))]), (.cst (.int 998))]) (.var 3)), .ret (.bin .add true (.tup [(.idx (.var 1) (.cst (.int 0))), (.tup [(.idx (.idx (.var 1) (.cst (.int 1))) (.cst (.int 0))), (.prm .tuple true [(.var 2)])])]) (.slc true (.var 1) [(.cst (.int 2))] []))]
def m11 : MDef := ⟨⟨("_law_near", none), "_law_near", "_law_near", defArgs (topS 14), defBody (topS 14), defScope (topS 14), [], []⟩, ["_law_state", "_law_slots_here", "_law_seen_here", "_law_at", "_law_box"], ["_law_state", "_law_slots_here"], ⟨"_law_near", 2, 5, [], b11⟩⟩
def b12 : List S := [.asg 2 (.lst true [(.cst .non)]), .forr [3] true (.iSeq (.slc true (.var 1) [] [(.cst (.int 4))])) [.asg 2 (.bin .add true (.bin .add true (.var 2) (.lst true [(.tup [(.var 3), (.cst (.str "there"))]), (.tup [(.var 3), (.cst (.str "none"))])])) (.comp true [7] [7] true (.iSeq (.slc true (.var 1) [] [(.cst (.int 4))])) [] (.tup [(.var 3), (.cst (.str "as")), (.var 7)])))], .asg 4 (.prm .list true [(.var 0)]), .forr [5] true (.iSeq (.var 2)) [.asg 6 (.prm .repr true [(.call true 10 [(.var 0), (.var 5)] [])]), .iff (.cmp .ne (.comp true [8] [8] true (.iRng [(.cst (.int 2))]) [] (.prm .repr true [(.call true 1 [(.var 0), (.var 5)] [])])) (.bin .mul true (.lst true [(.var 6)]) (.cst (.int 2)))) [.ret (.cst (.bl false))] []], .ret (.cmp .eq (.var 4) (.prm .list true [(.var 0)]))]
def m12 : MDef := ⟨⟨("_law_right", none), "_law_right", "_law_right", defArgs (topS 15), defBody (topS 15), defScope (topS 15), [], []⟩, ["_law_slots_here", "_law_words_here", "_law_guards", "_law_slot", "_law_handed", "_law_guard", "_law_due", "_law_other", "_law_turn"], ["_law_slots_here", "_law_words_here"], ⟨"_law_right", 2, 9, [], b12⟩⟩
def b13 : List S := [.forr [1] true (.iRng [(.prm .max true [(.cst (.int 2)), (.prm .min true [(.prm .len true [(.var 0)]), (.cst (.int 30))])])]) [.asg 2 (.call false 2 [(.var 0), (.var 1)] []), .asg 3 (.call true 6 [(.var 2), (.cst (.int 5))] []), .asg 4 (.call true 7 [(.var 2), (.var 3)] []), .asg 5 (.call true 9 [(.var 2), (.var 4), (.var 3)] []), .iff (.or (.not (.call true 12 [(.var 5), (.var 3)] [])) (.not (.call true 12 [(.call true 11 [(.var 2), (.var 5)] []), (.var 3)] []))) [.ret (.cst (.bl false))] []], .ret (.cst (.bl true))]
def m13 : MDef := ⟨⟨("law", none), "law", "law", defArgs (topS 16), defBody (topS 16), defScope (topS 16), [], []⟩, ["_law_script", "_law_k", "_law_state", "_law_words_here", "_law_room_here", "_law_slots_here"], ["_law_script"], ⟨"law", 1, 6, [], b13⟩⟩
def gs : List (Str × D) := []
def xs : List Nat := []
def ms : List MDef := [m0, m1, m2, m3, m4, m5, m6, m7, m8, m9, m10, m11, m12, m13]
theorem ms_ok : ms.all (MDef.okB (tabOf ms gs xs)) = true := by decide +kernel
abbrev R : PySem.W.OpenRow := PySem.W.OpenLaw.row PySem.Challenge.rw_stillso_k15_guards
abbrev hkM : PySem.W.Hook := hookM 4 (faOf ms) (ms.map (·.d)) gs xs
def ob (s : PySem.W.SharedT) : He.AlD × Bool × Bool := obsG 4 (faOf ms) (ms.map (·.d)) gs xs (HandSHeadRun.getT s)
theorem ob_eq (s : PySem.W.SharedT) : ob s = hkM.obs s.abs   := obsG_eq (HandSHeadRun.getT_eq s)
theorem run (w : World) : HandSHeadRun.RunEq R (PySem.W.view R.prog [16]) hkM ob 12000 [("has" : Str), ("guard_holds" : Str), ("_law_begun" : Str), ("_law_next" : Str), ("_law_pick" : Str), ("_law_kept" : Str), ("_law_words" : Str), ("_law_room" : Str), ("_law_seen" : Str), ("_law_slots" : Str), ("_law_guarded" : Str), ("_law_near" : Str), ("_law_right" : Str)] w := by
  intro os
  kernel_rfl
end K15

/-! K15B: guards, by the program and by the law. -/
namespace K15
open PySem PySem.Spec Mi Dr Pr Gn
open Sl (SP pD valS dkS One Sn sn_non has_ok find_dk dct_at deps_le eqv_self ne_self look_flat pD_flat pD_plain pD_dep)
structure Has (T : List Fn) : Prop where
  h0 : T[0]? = some m0.fn
  h1 : T[1]? = some m1.fn
  h2 : T[2]? = some m2.fn
  h3 : T[3]? = some m3.fn
  h4 : T[4]? = some m4.fn
  h5 : T[5]? = some m5.fn
  h6 : T[6]? = some m6.fn
  h7 : T[7]? = some m7.fn
  h8 : T[8]? = some m8.fn
  h9 : T[9]? = some m9.fn
  h10 : T[10]? = some m10.fn
  h11 : T[11]? = some m11.fn
  h12 : T[12]? = some m12.fn
inductive Gu | no | th (s : Str) (b : Bool) | ass (s u : Str)
def kT (b : Bool) : Str := if b then "there" else "none"
def Gu.d : Gu → D
  | .no => .non
  | .th s b => .tup [.str s, .str (kT b)]
  | .ass s u => .tup [.str s, .str "as", .str u]
/-- a part of what was seen -/
structure Fl (d : D) : Prop where
  p : Mi.plain d = true
  f : Mi.flat d = true
  d : dep d ≤ 1
/-- what was seen -/
def sv (w : Str) (b : D) (z : Str) (m x : D) : D := .tup [.str w, b, .str z, m, x]
def Sv (v : D) : Prop := ∃ (w z : Str) (b m x : D), v = sv w b z m x ∧ Fl b ∧ Fl m ∧ Fl x
theorem fl_str {s : Str} : Fl (.str s) := ⟨rfl, rfl, Nat.zero_le _⟩
theorem fl_non : Fl .non := ⟨rfl, rfl, Nat.zero_le _⟩
theorem fl_int {i : Int} : Fl (.int i) := ⟨rfl, rfl, Nat.zero_le _⟩
theorem fl_pair {i j : Int} : Fl (.tup [.int i, .int j]) := ⟨rfl, rfl, Nat.le_refl _⟩
theorem fl_list {xs : List D} (h : ∀ x ∈ xs, Fl x) : Mi.plain (.tup xs) = true ∧ Mi.flat (.tup xs) = true ∧ dep (.tup xs) ≤ 2 :=
  ⟨by unfold Mi.plain; exact plains_all fun x hx => (h x hx).p, by unfold Mi.flat; exact mem_flats fun x hx => (h x hx).f, by unfold dep; exact Nat.succ_le_succ (deps_le fun x hx => (h x hx).d)⟩
theorem sv_parts {w z : Str} {b m x : D} (hb : Fl b) (hm : Fl m) (hx : Fl x) : ∀ d ∈ [D.str w, b, .str z, m, x], Fl d := fun d hd => by
  simp only [List.mem_cons, List.not_mem_nil, or_false] at hd
  rcases hd with rfl | rfl | rfl | rfl | rfl
  · exact fl_str
  · exact hb
  · exact fl_str
  · exact hm
  · exact hx
theorem Sv.sn {v : D} (h : Sv v) : Sn v := by
  obtain ⟨w, z, b, m, x, rfl, hb, hm, hx⟩ := h
  obtain ⟨p, f, d⟩ := fl_list (sv_parts (w := w) (z := z) hb hm hx)
  exact ⟨p, f, Nat.le_trans d (by decide)⟩
structure Sls (ps : List SP) : Prop where
  o : One ps
  l : ps.length ≤ 10
  v : ∀ p ∈ ps, Sv p.2
def told (ps : List SP) : D := .tup (ps.map pD)
theorem told_flat {ps : List SP} (h : Sls ps) : Mi.flat (told ps) = true := by
  unfold told Mi.flat
  exact mem_flats fun x hx => by obtain ⟨p, hp, rfl⟩ := List.mem_map.mp hx; exact pD_flat (h.v p hp).sn
theorem val_sv {ps : List SP} (h : Sls ps) {k : Str} {v : D} (e : valS ps k = some v) : Sv v := by
  unfold valS at e
  obtain ⟨p, hp, rfl⟩ := Option.map_eq_some_iff.mp e
  exact h.v p (List.mem_of_find?_eq_some hp)
def tl (v : D) : D := match v with | .tup (_ :: r) => .tup r | d => d
def mk3 (v : D) : Bool := match v with | .tup [_, _, _, m, _] => (match m with | .non => false | _ => true) | _ => false
def hasM (ps : List SP) (s : Str) : Bool := match valS ps s with | some v => mk3 v | none => false
def same2 (ps : List SP) (s u : Str) : Bool := match valS ps s with | some v => (match valS ps u with | some w => eqv (tl v) (tl w) | none => false) | none => false
def gh (ps : List SP) : Gu → Bool
  | .no => true
  | .th s b => hasM ps s == b
  | .ass s u => same2 ps s u
theorem eq_pl {x y : D} {s : Store} (hx : Mi.plain x = true) (hy : Mi.plain y = true) (fx : Mi.flat x = true) (fy : Mi.flat y = true) (d : dep x ≤ 60) : compop .eq x y s = .ok (.bl (eqv x y)) s := by
  have c : comparable x y = true := by
    unfold comparable
    simp only [hx, hy, Bool.and_self, Bool.true_and, decide_eq_true_eq]
    omega
  simp only [compop, look_flat fx, look_flat fy, if_pos c]
theorem eq_bl {a b : Bool} {s : Store} : compop .eq (.bl a) (.bl b) s = .ok (.bl (a == b)) s := by
  simp [compop, comparable, Mi.plain, dep, eqv]
theorem sv_tl {v : D} (h : Sv v) : ∃ r, tl v = .tup r ∧ (∀ s, slice true v (some 1) none s = .ok (tl v) s) ∧ Mi.plain (tl v) = true ∧ Mi.flat (tl v) = true ∧ dep (tl v) ≤ 2 := by
  obtain ⟨w, z, b, m, x, rfl, hb, hm, hx⟩ := h
  refine ⟨[b, .str z, m, x], rfl, fun s => sl_tail, fl_list fun d hd => sv_parts (w := w) (z := z) hb hm hx d (.tail _ hd)⟩
theorem eq_tl {v w : D} {s : Store} (hv : Sv v) (hw : Sv w) : compop .eq (tl v) (tl w) s = .ok (.bl (eqv (tl v) (tl w))) s := by
  obtain ⟨_, _, _, p, f, d⟩ := sv_tl hv
  obtain ⟨_, _, _, p', f', _⟩ := sv_tl hw
  exact eq_pl p p' f f' (by omega)
theorem sv_isn {v : D} (h : Sv v) {s : Store} : compop .isn v .non s = .ok (.bl true) s ∧ ∃ m, index v (.int 3) s = .ok m s ∧ compop .isn m .non s = .ok (.bl (mk3 v)) s := by
  obtain ⟨w, z, b, m, x, rfl, hb, hm, hx⟩ := h
  refine ⟨rfl, m, rfl, ?_⟩
  cases m <;> rfl
theorem there_as (b : Bool) : (kT b == ("as" : Str)) = false ∧ (kT b == ("there" : Str)) = b := by
  cases b
  · exact ⟨by decide +kernel, by decide +kernel⟩
  · exact ⟨by decide +kernel, by decide +kernel⟩
section
variable {T : List Fn} {n : Nat} {st : Store} {ps : List SP}
theorem has0 (H : Has T) (h : Sls ps) (k : Str) : callN T (n + 1) 0 [told ps, .str k] st = .ok ((valS ps k).getD .non) st := has_ok H.h0 fun p hp => (h.v p hp).sn
theorem val_flat (h : Sls ps) (k : Str) : Mi.flat ((valS ps k).getD .non) = true := by
  cases e : valS ps k with
  | none => rfl
  | some v => exact (val_sv h e).sn.f
theorem gh_ok (H : Has T) (h : Sls ps) (g : Gu) : callN T (n + 2) 1 [told ps, g.d] st = .ok (.bl (gh ps g)) st := by
  rw [callN_s H.h1 rfl]
  show leave st (exs (callN T (n + 1)) b1 [some (told ps), some g.d, none, none] st) = _
  have fin : ∀ {k : Bool}, exs (callN T (n + 1)) b1 [some (told ps), some g.d, none, none] st = .rt (.bl k) st → leave st (exs (callN T (n + 1)) b1 [some (told ps), some g.d, none, none] st) = .ok (.bl k) st := fun {k} e => by
    rw [e, leave_rt]
    exact canon_flat0 rfl
  refine fin ?_
  cases g with
  | no => exact iff_rt (by rw [ev, ev_var (d := .non) rfl, R.bind_ok, ev_cst, R.bind_ok]; rfl) (ret_rt ev_cst)
  | th s b =>
    have c0 : asBool (ev (callN T (n + 1)) (.cmp .isc (.var 1) (.cst .non)) [some (told ps), some (Gu.th s b).d, none, none] st) = .ok false st := by rw [ev, ev_var (d := (Gu.th s b).d) rfl, R.bind_ok, ev_cst, R.bind_ok]; rfl
    have x1 : ev (callN T (n + 1)) (.call true 0 [(.var 0), (.idx (.var 1) (.cst (.int 0)))] []) [some (told ps), some (Gu.th s b).d, none, none] st = .ok ((valS ps s).getD .non) st := by
      simp only [ev, evs, List.getElem?_cons_zero, List.getElem?_cons_succ, R.bind_ok, List.append_nil, if_true, Gu.d, ix0, has0 H h]
      exact frz_flat' (val_flat h s)
    have w1 : ∀ e2 : Option D, ev (callN T (n + 1)) (.idx (.var 1) (.cst (.int 1))) [some (told ps), some (Gu.th s b).d, e2, none] st = .ok (.str (kT b)) st := fun e2 => by
      rw [ev, ev_var (d := (Gu.th s b).d) rfl, R.bind_ok, ev_cst, R.bind_ok]; exact ix1
    have c1 : asBool (ev (callN T (n + 1)) (.cmp .eq (.idx (.var 1) (.cst (.int 1))) (.cst (.str "as"))) [some (told ps), some (Gu.th s b).d, some ((valS ps s).getD .non), none] st) = .ok false st := by
      rw [ev, w1, R.bind_ok, ev_cst, R.bind_ok, eq_str, (there_as b).1, asBool_ok]
    have x2 : ev (callN T (n + 1)) (.and (.cmp .isn (.var 2) (.cst .non)) (.cmp .isn (.idx (.var 2) (.cst (.int 3))) (.cst .non))) [some (told ps), some (Gu.th s b).d, some ((valS ps s).getD .non), none] st = .ok (.bl (hasM ps s)) st := by
      unfold hasM
      cases e : valS ps s with
      | none =>
        rw [ev, ev, ev_var (d := .non) rfl, R.bind_ok, ev_cst, R.bind_ok]
        rfl
      | some v =>
        obtain ⟨i1, m, i2, i3⟩ := sv_isn (val_sv h e) (s := st)
        rw [ev, ev, ev_var (d := v) rfl, R.bind_ok, ev_cst, R.bind_ok, i1, R.bind_ok]
        simp only [truth_bl]
        rw [ev, ev, ev_var (d := v) rfl, R.bind_ok, ev_cst, R.bind_ok, i2, R.bind_ok, ev_cst, R.bind_ok, i3]
    refine (iff_no c0).trans ((asg_go x1).trans ((iff_no c1).trans (ret_rt ?_)))
    show ev (callN T (n + 1)) _ [some (told ps), some (Gu.th s b).d, some ((valS ps s).getD .non), none] st = _
    rw [ev, x2, R.bind_ok, ev, w1, R.bind_ok, ev_cst, R.bind_ok, eq_str, R.bind_ok, (there_as b).2, eq_bl]
    rfl
  | ass s u =>
    have c0 : asBool (ev (callN T (n + 1)) (.cmp .isc (.var 1) (.cst .non)) [some (told ps), some (Gu.ass s u).d, none, none] st) = .ok false st := by rw [ev, ev_var (d := (Gu.ass s u).d) rfl, R.bind_ok, ev_cst, R.bind_ok]; rfl
    have x1 : ev (callN T (n + 1)) (.call true 0 [(.var 0), (.idx (.var 1) (.cst (.int 0)))] []) [some (told ps), some (Gu.ass s u).d, none, none] st = .ok ((valS ps s).getD .non) st := by
      simp only [ev, evs, List.getElem?_cons_zero, List.getElem?_cons_succ, R.bind_ok, List.append_nil, if_true, Gu.d, ix0, has0 H h]
      exact frz_flat' (val_flat h s)
    have c1 : asBool (ev (callN T (n + 1)) (.cmp .eq (.idx (.var 1) (.cst (.int 1))) (.cst (.str "as"))) [some (told ps), some (Gu.ass s u).d, some ((valS ps s).getD .non), none] st) = .ok true st := by
      rw [ev, ev, ev_var (d := (Gu.ass s u).d) rfl, R.bind_ok, ev_cst, R.bind_ok, show index (Gu.ass s u).d (.int 1) st = .ok (.str "as") st from ix1, R.bind_ok, ev_cst, R.bind_ok, eq_str]
      rfl
    have x2 : ev (callN T (n + 1)) (.call true 0 [(.var 0), (.idx (.var 1) (.cst (.int 2)))] []) [some (told ps), some (Gu.ass s u).d, some ((valS ps s).getD .non), none] st = .ok ((valS ps u).getD .non) st := by
      simp only [ev, evs, List.getElem?_cons_zero, List.getElem?_cons_succ, R.bind_ok, List.append_nil, if_true, Gu.d, ix2, has0 H h]
      exact frz_flat' (val_flat h u)
    refine (iff_no c0).trans ((asg_go x1).trans (iff_rt c1 ((asg_go x2).trans (ret_rt ?_))))
    show ev (callN T (n + 1)) _ [some (told ps), some (Gu.ass s u).d, some ((valS ps s).getD .non), some ((valS ps u).getD .non)] st = _
    rw [show gh ps (.ass s u) = same2 ps s u from rfl]
    unfold same2
    cases e : valS ps s with
    | none =>
      rw [ev, ev, ev_var (d := .non) rfl, R.bind_ok, ev_cst, R.bind_ok]
      rfl
    | some v =>
      obtain ⟨i1, _⟩ := sv_isn (val_sv h e) (s := st)
      rw [ev, ev, ev_var (d := v) rfl, R.bind_ok, ev_cst, R.bind_ok, i1, R.bind_ok]
      simp only [truth_bl]
      cases e2 : valS ps u with
      | none =>
        rw [ev, ev, ev_var (d := .non) rfl, R.bind_ok, ev_cst, R.bind_ok]
        rfl
      | some w =>
        obtain ⟨j1, _⟩ := sv_isn (val_sv h e2) (s := st)
        rw [ev, ev, ev_var (d := w) rfl, R.bind_ok, ev_cst, R.bind_ok, j1, R.bind_ok]
        simp only [truth_bl]
        obtain ⟨_, _, s1, _⟩ := sv_tl (val_sv h e)
        obtain ⟨_, _, s2, _⟩ := sv_tl (val_sv h e2)
        have z1 : ∀ (i : Nat) (x : D), [some (told ps), some (Gu.ass s u).d, some v, some w][i]? = some (some x) → (∀ s, slice true x (some 1) none s = .ok (tl x) s) → ev (callN T (n + 1)) (.slc true (.var i) [(.cst (.int 1))] []) [some (told ps), some (Gu.ass s u).d, some v, some w] st = .ok (tl x) st := fun i x hx hs => by
          simp only [ev, evs, hx, R.bind_ok, oneIntR, oneInt, hs]
        show ev (callN T (n + 1)) _ [some (told ps), some (Gu.ass s u).d, some v, some w] st = _
        rw [ev, z1 2 v rfl s1, R.bind_ok, z1 3 w rfl s2, R.bind_ok, eq_tl (val_sv h e) (val_sv h e2)]
/-! ### by the law -/
theorem pairT_pD : ∀ ps : List SP, pairT (ps.map pD) = some (dkS ps)
  | [] => rfl
  | p :: ps => by
    rw [List.map_cons]
    show pairT (.tup [.str p.1, p.2] :: ps.map pD) = _
    unfold pairT
    rw [pairT_pD ps]
    rfl
theorem dput_new {κ : Type} [DecidableEq κ] {kvs : List (κ × D)} {k : κ} {v : D} (h : k ∉ kvs.map (·.1)) : dput kvs k v = kvs ++ [(k, v)] := by
  unfold dput
  rw [if_neg]
  intro e
  obtain ⟨kv, h1, h2⟩ := List.any_eq_true.mp e
  exact h (List.mem_map.mpr ⟨kv, h1, of_decide_eq_true h2⟩)
theorem dmerge_new {κ : Type} [DecidableEq κ] : ∀ {more kvs : List (κ × D)}, ((kvs ++ more).map (·.1)).Nodup → dmerge kvs more = kvs ++ more
  | [], kvs, _ => by simp [dmerge]
  | q :: more, kvs, h => by
    have h1 : q.1 ∉ kvs.map (·.1) := fun hm => by
      rw [List.map_append, List.map_cons] at h
      exact (List.nodup_append.mp h).2.2 _ hm _ (.head _) rfl
    have e : dput kvs q.1 q.2 = kvs ++ [q] := dput_new h1
    unfold dmerge
    rw [List.foldl_cons, e]
    have := dmerge_new (more := more) (kvs := kvs ++ [q]) (by rw [List.append_assoc]; exact h)
    unfold dmerge at this
    rw [this, List.append_assoc]
    rfl
theorem dk_new (o : One ps) : dmerge [] (dkS ps) = dkS ps := by
  rw [dmerge_new (by
    rw [List.nil_append]
    have e : (dkS ps).map (·.1) = (ps.map (·.1)).map Sum.inr := by unfold dkS; rw [List.map_map, List.map_map]; rfl
    rw [e]
    exact List.Pairwise.map _ (fun a b h e => h (Sum.inr.inj e)) o), List.nil_append]
abbrev SD (st : Store) (ps : List SP) : Store := st ++ [.dk (dkS ps)]
theorem sd_at : (SD st ps)[st.length]? = some (.dk (dkS ps)) := ca_at (cs := [.dk (dkS ps)]) (i := 0)
theorem in_dk (k : Str) : compop .inn (.str k) (.loc st.length) (SD st ps) = .ok (.bl (valS ps k).isSome) (SD st ps) := by
  have e1 : look (SD st ps) (.loc st.length) = .loc st.length := by simp only [look, sd_at]
  simp only [compop, member, e1, dct_at sd_at, keyD, find_dk, boolR]
theorem get_dk (k : Str) : meth .get true (.loc st.length) [.str k] (SD st ps) = .ok ((valS ps k).getD .non) (SD st ps) := by
  unfold meth mGet
  rw [dct_at sd_at]
  simp only [keyD, find_dk]
theorem idx_dk {k : Str} {v : D} (h : valS ps k = some v) : index (.loc st.length) (.str k) (SD st ps) = .ok v (SD st ps) := by
  have e1 : look (SD st ps) (.loc st.length) = .loc st.length := by simp only [look, sd_at]
  simp only [index, e1, dct_at sd_at, keyD, find_dk, h]
theorem lg_ok (H : Has T) (h : Sls ps) (g : Gu) : callN T (n + 1) 10 [told ps, g.d] st = .ok (.bl (gh ps g)) st := by
  rw [callN_s H.h10 rfl]
  show leave st (exs (callN T n) b10 [some (told ps), some g.d, none, none, none] st) = _
  have fin : ∀ {k : Bool} {x : List Cell}, exs (callN T n) b10 [some (told ps), some g.d, none, none, none] st = .rt (.bl k) (st ++ x) → leave st (exs (callN T n) b10 [some (told ps), some g.d, none, none, none] st) = .ok (.bl k) st := fun {k x} e => by
    rw [e, leave_rt]
    exact ca_canon rfl
  cases g with
  | no => exact fin (x := []) (iff_rt (s1 := st) (by rw [ev, ev_var (d := .non) rfl, R.bind_ok, ev_cst, R.bind_ok]; rfl) ((ret_rt ev_cst).trans (by rw [List.append_nil]; rfl)))
  | th s b =>
    have c0 : asBool (ev (callN T n) (.cmp .isc (.var 1) (.cst .non)) [some (told ps), some (Gu.th s b).d, none, none, none] st) = .ok false st := by rw [ev, ev_var (d := (Gu.th s b).d) rfl, R.bind_ok, ev_cst, R.bind_ok]; rfl
    have x1 : ev (callN T n) (.prm .dict true [(.var 0)]) [some (told ps), some (Gu.th s b).d, none, none, none] st = .ok (.loc st.length) (SD st ps) := by
      have hl := h.l
      simp only [ev, evs, List.getElem?_cons_zero, R.bind_ok, prim, told, look_tup', pairT_pD]
      rw [if_pos (by unfold dkS; rw [List.length_map]; omega), dk_new h.o]
    have s0 : ∀ e2 e3 e4 : Option D, ev (callN T n) (.idx (.var 1) (.cst (.int 0))) [some (told ps), some (Gu.th s b).d, e2, e3, e4] (SD st ps) = .ok (.str s) (SD st ps) := fun e2 e3 e4 => by
      rw [ev, ev_var (d := (Gu.th s b).d) rfl, R.bind_ok, ev_cst, R.bind_ok]; exact ix0
    have w1 : ∀ e2 e3 e4 : Option D, ev (callN T n) (.idx (.var 1) (.cst (.int 1))) [some (told ps), some (Gu.th s b).d, e2, e3, e4] (SD st ps) = .ok (.str (kT b)) (SD st ps) := fun e2 e3 e4 => by
      rw [ev, ev_var (d := (Gu.th s b).d) rfl, R.bind_ok, ev_cst, R.bind_ok]; exact ix1
    have rc : recv .get (.loc st.length) (SD st ps) = true := Sl.rcv_get sd_at
    have x2 : ev (callN T n) (.mth .get true (.var 2) [(.idx (.var 1) (.cst (.int 0)))]) [some (told ps), some (Gu.th s b).d, some (.loc st.length), none, none] (SD st ps) = .ok ((valS ps s).getD .non) (SD st ps) := by
      rw [ev, ev_var (d := .loc st.length) rfl, R.bind_ok, if_pos rc, evs, s0, R.bind_ok, evs, R.bind_ok, R.bind_ok, get_dk]
    have c1 : asBool (ev (callN T n) (.cmp .eq (.idx (.var 1) (.cst (.int 1))) (.cst (.str "as"))) [some (told ps), some (Gu.th s b).d, some (.loc st.length), some ((valS ps s).getD .non), none] (SD st ps)) = .ok false (SD st ps) := by
      rw [ev, w1, R.bind_ok, ev_cst, R.bind_ok, eq_str, (there_as b).1, asBool_ok]
    have x3 : ev (callN T n) (.and (.cmp .inn (.idx (.var 1) (.cst (.int 0))) (.var 2)) (.cmp .isn (.idx (.var 3) (.cst (.int 3))) (.cst .non))) [some (told ps), some (Gu.th s b).d, some (.loc st.length), some ((valS ps s).getD .non), none] (SD st ps) = .ok (.bl (hasM ps s)) (SD st ps) := by
      rw [ev, ev, s0, R.bind_ok, ev_var (d := .loc st.length) rfl, R.bind_ok, in_dk, R.bind_ok]
      unfold hasM
      cases e : valS ps s with
      | none => rfl
      | some v =>
        obtain ⟨_, m, i2, i3⟩ := sv_isn (val_sv h e) (s := SD st ps)
        simp only [Option.isSome_some, truth_bl]
        rw [ev, ev, ev_var (d := v) rfl, R.bind_ok, ev_cst, R.bind_ok, i2, R.bind_ok, ev_cst, R.bind_ok, i3]
    have x4 : ev (callN T n) (.ite (.cmp .eq (.idx (.var 1) (.cst (.int 1))) (.cst (.str "there"))) (.var 4) (.not (.var 4))) [some (told ps), some (Gu.th s b).d, some (.loc st.length), some ((valS ps s).getD .non), some (.bl (hasM ps s))] (SD st ps) = .ok (.bl (gh ps (.th s b))) (SD st ps) := by
      rw [ev, ev, w1, R.bind_ok, ev_cst, R.bind_ok, eq_str, (there_as b).2, asBool_ok, R.bind_ok]
      rw [show gh ps (.th s b) = (hasM ps s == b) from rfl]
      cases b with
      | true => rw [if_pos rfl, ev_var (d := .bl (hasM ps s)) rfl]; cases hasM ps s <;> rfl
      | false => rw [if_neg Bool.false_ne_true, ev, ev_var (d := .bl (hasM ps s)) rfl, asBool_ok, R.bind_ok]; cases hasM ps s <;> rfl
    exact fin ((iff_no c0).trans ((asg_go x1).trans ((asg_go x2).trans ((iff_no c1).trans ((asg_go x3).trans (ret_rt x4))))))
  | ass s u =>
    have c0 : asBool (ev (callN T n) (.cmp .isc (.var 1) (.cst .non)) [some (told ps), some (Gu.ass s u).d, none, none, none] st) = .ok false st := by rw [ev, ev_var (d := (Gu.ass s u).d) rfl, R.bind_ok, ev_cst, R.bind_ok]; rfl
    have x1 : ev (callN T n) (.prm .dict true [(.var 0)]) [some (told ps), some (Gu.ass s u).d, none, none, none] st = .ok (.loc st.length) (SD st ps) := by
      have hl := h.l
      simp only [ev, evs, List.getElem?_cons_zero, R.bind_ok, prim, told, look_tup', pairT_pD]
      rw [if_pos (by unfold dkS; rw [List.length_map]; omega), dk_new h.o]
    have s0 : ∀ e2 e3 e4 : Option D, ev (callN T n) (.idx (.var 1) (.cst (.int 0))) [some (told ps), some (Gu.ass s u).d, e2, e3, e4] (SD st ps) = .ok (.str s) (SD st ps) := fun e2 e3 e4 => by
      rw [ev, ev_var (d := (Gu.ass s u).d) rfl, R.bind_ok, ev_cst, R.bind_ok]; exact ix0
    have u0 : ∀ e2 e3 e4 : Option D, ev (callN T n) (.idx (.var 1) (.cst (.int 2))) [some (told ps), some (Gu.ass s u).d, e2, e3, e4] (SD st ps) = .ok (.str u) (SD st ps) := fun e2 e3 e4 => by
      rw [ev, ev_var (d := (Gu.ass s u).d) rfl, R.bind_ok, ev_cst, R.bind_ok]; exact ix2
    have rc : recv .get (.loc st.length) (SD st ps) = true := Sl.rcv_get sd_at
    have x2 : ev (callN T n) (.mth .get true (.var 2) [(.idx (.var 1) (.cst (.int 0)))]) [some (told ps), some (Gu.ass s u).d, some (.loc st.length), none, none] (SD st ps) = .ok ((valS ps s).getD .non) (SD st ps) := by
      rw [ev, ev_var (d := .loc st.length) rfl, R.bind_ok, if_pos rc, evs, s0, R.bind_ok, evs, R.bind_ok, R.bind_ok, get_dk]
    have c1 : asBool (ev (callN T n) (.cmp .eq (.idx (.var 1) (.cst (.int 1))) (.cst (.str "as"))) [some (told ps), some (Gu.ass s u).d, some (.loc st.length), some ((valS ps s).getD .non), none] (SD st ps)) = .ok true (SD st ps) := by
      rw [ev, ev, ev_var (d := (Gu.ass s u).d) rfl, R.bind_ok, ev_cst, R.bind_ok, show index (Gu.ass s u).d (.int 1) (SD st ps) = .ok (.str "as") (SD st ps) from ix1, R.bind_ok, ev_cst, R.bind_ok, eq_str]
      rfl
    have x3 : ev (callN T n) (.and (.cmp .inn (.idx (.var 1) (.cst (.int 0))) (.var 2)) (.and (.cmp .inn (.idx (.var 1) (.cst (.int 2))) (.var 2)) (.cmp .eq (.slc true (.var 3) [(.cst (.int 1))] []) (.slc true (.idx (.var 2) (.idx (.var 1) (.cst (.int 2)))) [(.cst (.int 1))] [])))) [some (told ps), some (Gu.ass s u).d, some (.loc st.length), some ((valS ps s).getD .non), none] (SD st ps) = .ok (.bl (gh ps (.ass s u))) (SD st ps) := by
      rw [ev, ev, s0, R.bind_ok, ev_var (d := .loc st.length) rfl, R.bind_ok, in_dk, R.bind_ok]
      rw [show gh ps (.ass s u) = same2 ps s u from rfl]
      unfold same2
      cases e : valS ps s with
      | none => rfl
      | some v =>
        simp only [Option.isSome_some, truth_bl]
        rw [ev, ev, u0, R.bind_ok, ev_var (d := .loc st.length) rfl, R.bind_ok, in_dk, R.bind_ok]
        cases e2 : valS ps u with
        | none => rfl
        | some w =>
          simp only [Option.isSome_some, truth_bl, Option.getD_some]
          obtain ⟨_, _, s1, _⟩ := sv_tl (val_sv h e)
          obtain ⟨_, _, s2, _⟩ := sv_tl (val_sv h e2)
          have z1 : ev (callN T n) (.slc true (.var 3) [(.cst (.int 1))] []) [some (told ps), some (Gu.ass s u).d, some (.loc st.length), some v, none] (SD st ps) = .ok (tl v) (SD st ps) := by
            simp only [ev, evs, List.getElem?_cons_zero, List.getElem?_cons_succ, R.bind_ok, oneIntR, oneInt, s1]
          have z0 : ev (callN T n) (.idx (.var 2) (.idx (.var 1) (.cst (.int 2)))) [some (told ps), some (Gu.ass s u).d, some (.loc st.length), some v, none] (SD st ps) = .ok w (SD st ps) := by
            rw [ev, ev_var (d := .loc st.length) rfl, R.bind_ok, u0, R.bind_ok, idx_dk e2]
          have z2 : ev (callN T n) (.slc true (.idx (.var 2) (.idx (.var 1) (.cst (.int 2)))) [(.cst (.int 1))] []) [some (told ps), some (Gu.ass s u).d, some (.loc st.length), some v, none] (SD st ps) = .ok (tl w) (SD st ps) := by
            rw [ev, z0]
            simp only [ev, evs, R.bind_ok, oneIntR, oneInt, s2]
          rw [ev, z1, R.bind_ok, z2, R.bind_ok, eq_tl (val_sv h e) (val_sv h e2)]
    exact fin ((iff_no c0).trans ((asg_go x1).trans ((asg_go x2).trans (iff_rt c1 (ret_rt x3)))))
end
end K15
/-! K15C: all guards tried; slots nearly alike. -/
namespace K15
open PySem PySem.Spec Mi Dr Pr Gn
open Sl (SP pD valS dkS One Sn sn_non has_ok find_dk dct_at deps_le eqv_self ne_self look_flat pD_flat pD_plain pD_dep)
def tS (b : Bool) : Str := if b then "True" else "False"
theorem Gu.flat (g : Gu) : Mi.flat g.d = true := by cases g <;> rfl
section
variable {T : List Fn} {n : Nat} {st : Store} {ps : List SP} {ws : List Str}
theorem repr_bl {b : Bool} {s : Store} : prim .repr true [.bl b] s = .ok (.str (tS b)) s := rfl
def rb1 : List S := [.asg 2 (.bin .add true (.bin .add true (.var 2) (.lst true [(.tup [(.var 3), (.cst (.str "there"))]), (.tup [(.var 3), (.cst (.str "none"))])])) (.comp true [7] [7] true (.iSeq (.slc true (.var 1) [] [(.cst (.int 4))])) [] (.tup [(.var 3), (.cst (.str "as")), (.var 7)])))]
def rb2 : List S := [.asg 6 (.prm .repr true [(.call true 10 [(.var 0), (.var 5)] [])]), .iff (.cmp .ne (.comp true [8] [8] true (.iRng [(.cst (.int 2))]) [] (.prm .repr true [(.call true 1 [(.var 0), (.var 5)] [])])) (.bin .mul true (.lst true [(.var 6)]) (.cst (.int 2)))) [.ret (.cst (.bl false))] []]
theorem b12_eq : b12 = [.asg 2 (.lst true [(.cst .non)]), .forr [3] true (.iSeq (.slc true (.var 1) [] [(.cst (.int 4))])) rb1, .asg 4 (.prm .list true [(.var 0)]), .forr [5] true (.iSeq (.var 2)) rb2, .ret (.cmp .eq (.var 4) (.prm .list true [(.var 0)]))] := rfl
def more (ws : List Str) (s : Str) : List Gu := [.th s true, .th s false] ++ (ws.take 4).map (Gu.ass s)
theorem words4 {cf : Nat → List D → Store → Mi.R D} {ρ : Mi.Env} {s : Store} (h1 : ρ[1]? = some (some (.lst (ws.map D.str)))) (w4 : 4 ≤ ws.length) (w1 : ws.length ≤ 100) : evI cf (.iSeq (.slc true (.var 1) [] [(.cst (.int 4))])) ρ s = .ok ((ws.take 4).map D.str, none) s := by
  have x : ev cf (.slc true (.var 1) [] [(.cst (.int 4))]) ρ s = .ok (.lst ((ws.take 4).map D.str)) s := ev_slc (v := 1) (k := 4) h1 w4 w1
  rw [evI, x, R.bind_ok]
  rfl
theorem rturn1 {cf : Nat → List D → Store → Mi.R D} (w4 : 4 ≤ ws.length) (w1 : ws.length ≤ 100) {gs : List Gu} (hg : gs.length ≤ 500) {s : Str} {e0 e3 e4 e5 e6 e7 e8 : Option D} : fstep cf [3] true rb1 (.str s) [e0, some (.lst (ws.map D.str)), some (.lst (gs.map Gu.d)), e3, e4, e5, e6, e7, e8] st = .nx [e0, some (.lst (ws.map D.str)), some (.lst ((gs ++ more ws s).map Gu.d)), some (.str s), e4, e5, e6, e7, e8] st := by
  unfold fstep
  simp only [bindT, if_true, put, List.set_cons_zero, List.set_cons_succ]
  have x1 : ev cf (.lst true [(.tup [(.var 3), (.cst (.str "there"))]), (.tup [(.var 3), (.cst (.str "none"))])]) [e0, some (.lst (ws.map D.str)), some (.lst (gs.map Gu.d)), some (.str s), e4, e5, e6, e7, e8] st = .ok (.lst ([Gu.th s true, .th s false].map Gu.d)) st :=
    ev_lst2 (ev_tup2 (ev_var rfl) ev_cst) (ev_tup2 (ev_var rfl) ev_cst)
  have x2 : ev cf (.comp true [7] [7] true (.iSeq (.slc true (.var 1) [] [(.cst (.int 4))])) [] (.tup [(.var 3), (.cst (.str "as")), (.var 7)])) [e0, some (.lst (ws.map D.str)), some (.lst (gs.map Gu.d)), some (.str s), e4, e5, e6, e7, e8] st = .ok (.lst (((ws.take 4).map (Gu.ass s)).map Gu.d)) st := by
    rw [ev_comp, words4 rfl w4 w1, R.bind_ok]
    have lc := loopC_flt (ck := fun s => stands s ((ws.take 4).map D.str) none) (f := cstep cf [7] [7] true [] (.tup [(.var 3), (.cst (.str "as")), (.var 7)]) [e0, some (.lst (ws.map D.str)), some (.lst (gs.map Gu.d)), some (.str s), e4, e5, e6, e7, e8]) (s := st) trivial D.str (fun _ => true) (fun u => (Gu.ass s u).d) (xs := ws.take 4) fun u _ => by
      unfold cstep
      simp only [bindT, if_true, put, Mi.wipe, List.set_cons_zero, List.set_cons_succ, evc, R.calm_ok, R.bind_ok]
      rw [ev_tup3 (ev_var (d := .str s) rfl) ev_cst (ev_var (d := .str u) rfl), R.calm_ok, R.bind_ok]
      rfl
    rw [lc, R.bind_ok, show ((ws.take 4).filter fun _ => true) = ws.take 4 from List.filter_eq_self.mpr fun _ _ => rfl, List.map_map]
    exact made_old' (by simp; omega)
  have x3 := ev_add (ev_add (ev_var (i := 2) (d := .lst (gs.map Gu.d)) rfl) x1 (by simp; omega)) x2 (by simp; omega)
  rw [← List.map_append, ← List.map_append, List.append_assoc] at x3
  exact (asg_go x3).trans exs_nil
theorem rturn2 (H : Has T) (h : Sls ps) {g : Gu} {e1 e2 e3 e4 e5 e6 e7 e8 : Option D} : ∃ e6', fstep (callN T (n + 2)) [5] true rb2 g.d [some (told ps), e1, e2, e3, e4, e5, e6, e7, e8] st = .nx [some (told ps), e1, e2, e3, e4, some g.d, e6', e7, e8] st := by
  unfold fstep
  simp only [bindT, if_true, put, List.set_cons_zero, List.set_cons_succ]
  have x1 : ev (callN T (n + 2)) (.prm .repr true [(.call true 10 [(.var 0), (.var 5)] [])]) [some (told ps), e1, e2, e3, e4, some g.d, e6, e7, e8] st = .ok (.str (tS (gh ps g))) st := by
    simp only [ev, evs, List.getElem?_cons_zero, List.getElem?_cons_succ, R.bind_ok, List.append_nil, if_true, lg_ok H h, freeze_bl, repr_bl]
  have x2 : ev (callN T (n + 2)) (.comp true [8] [8] true (.iRng [(.cst (.int 2))]) [] (.prm .repr true [(.call true 1 [(.var 0), (.var 5)] [])])) [some (told ps), e1, e2, e3, e4, some g.d, some (.str (tS (gh ps g))), e7, e8] st = .ok (.lst [.str (tS (gh ps g)), .str (tS (gh ps g))]) st := by
    have i2 : evI (callN T (n + 2)) (.iRng [(.cst (.int 2))]) [some (told ps), e1, e2, e3, e4, some g.d, some (.str (tS (gh ps g))), e7, e8] st = .ok ((List.range 2).map (fun (k : Nat) => D.int (0 + (k : Int))), none) st :=
      iRng_ev (ds := [.int 2]) (by rw [evs, ev_cst, R.bind_ok, evs, R.bind_ok]) (rangeD1 (by decide))
    rw [ev_comp, i2, R.bind_ok]
    have lc := loopC_flt (ck := fun s => stands s ((List.range 2).map (fun (k : Nat) => D.int (0 + (k : Int)))) none) (f := cstep (callN T (n + 2)) [8] [8] true [] (.prm .repr true [(.call true 1 [(.var 0), (.var 5)] [])]) [some (told ps), e1, e2, e3, e4, some g.d, some (.str (tS (gh ps g))), e7, e8]) (s := st) trivial (fun (k : Nat) => D.int (0 + (k : Int))) (fun _ => true) (fun _ => D.str (tS (gh ps g))) (xs := List.range 2) fun k _ => by
      unfold cstep
      simp only [bindT, if_true, put, Mi.wipe, List.set_cons_zero, List.set_cons_succ, evc, R.calm_ok, R.bind_ok, ev, evs, List.getElem?_cons_zero, List.getElem?_cons_succ, List.append_nil, gh_ok H h, freeze_bl, repr_bl]
    rw [lc, R.bind_ok]
    exact made_old' (by show 2 ≤ 1000; decide)
  have x3 : ev (callN T (n + 2)) (.bin .mul true (.lst true [(.var 6)]) (.cst (.int 2))) [some (told ps), e1, e2, e3, e4, some g.d, some (.str (tS (gh ps g))), e7, e8] st = .ok (.lst [.str (tS (gh ps g)), .str (tS (gh ps g))]) st := by
    have y : ev (callN T (n + 2)) (.lst true [(.var 6)]) [some (told ps), e1, e2, e3, e4, some g.d, some (.str (tS (gh ps g))), e7, e8] st = .ok (.lst [.str (tS (gh ps g))]) st := by
      rw [ev, evs, ev_var (d := .str (tS (gh ps g))) rfl, R.bind_ok, evs, R.bind_ok, R.bind_ok]
      exact made_old' (by show 1 ≤ 1000; decide)
    rw [ev, y, R.bind_ok, ev_cst, R.bind_ok]
    simp only [binop, look_lst']
    rw [if_pos (show [D.str (tS (gh ps g))].length ≤ 1000 ∧ (2 : Int) ≤ 1000 ∧ (-1000 : Int) ≤ 2 from ⟨by show 1 ≤ 1000; decide, by decide, by decide⟩)]
    exact made_old' (by show 2 ≤ 1000; decide)
  have c : asBool (ev (callN T (n + 2)) (.cmp .ne (.comp true [8] [8] true (.iRng [(.cst (.int 2))]) [] (.prm .repr true [(.call true 1 [(.var 0), (.var 5)] [])])) (.bin .mul true (.lst true [(.var 6)]) (.cst (.int 2)))) [some (told ps), e1, e2, e3, e4, some g.d, some (.str (tS (gh ps g))), e7, e8] st) = .ok false st := by
    rw [ev, x2, R.bind_ok, x3, R.bind_ok, ne_self rfl (by show 1 ≤ 60; decide) rfl, asBool_ok]
  exact ⟨some (.str (tS (gh ps g))), (asg_go x1).trans ((iff_no c).trans exs_nil)⟩
theorem list_told {cf : Nat → List D → Store → Mi.R D} {ρ : Mi.Env} (h : Sls ps) (h0 : ρ[0]? = some (some (told ps))) : ev cf (.prm .list true [(.var 0)]) ρ st = .ok (.lst (ps.map pD)) st := by
  have hl := h.l
  simp only [ev, evs, h0, R.bind_ok, prim, items, told, look_tup']
  exact made_old' (by rw [List.length_map]; omega)
theorem right_ok (H : Has T) (h : Sls ps) (w4 : 4 ≤ ws.length) (w1 : ws.length ≤ 100) : callN T (n + 3) 12 [told ps, .lst (ws.map D.str)] st = .ok (.bl true) st := by
  rw [callN_s H.h12 rfl]
  show leave st (exs (callN T (n + 2)) b12 [some (told ps), some (.lst (ws.map D.str)), none, none, none, none, none, none, none] st) = _
  have x1 : ev (callN T (n + 2)) (.lst true [(.cst .non)]) [some (told ps), some (.lst (ws.map D.str)), none, none, none, none, none, none, none] st = .ok (.lst ([Gu.no].map Gu.d)) st := by
    rw [ev, evs, ev_cst, R.bind_ok, evs, R.bind_ok, R.bind_ok]
    exact made_old' (by show 1 ≤ 1000; decide)
  obtain ⟨ρ', s', f1, gs, e3, hg, rfl, rfl⟩ := loopF_inv (ck := fun s => stands s ((ws.take 4).map D.str) none) (f := fstep (callN T (n + 2)) [3] true rb1)
    (fun t ρ s => ∃ (gs : List Gu) (e3 : Option D), gs.length ≤ 1 + 6 * t ∧ ρ = [some (told ps), some (.lst (ws.map D.str)), some (.lst (gs.map Gu.d)), e3, none, none, none, none, none] ∧ st = s) (xs := (ws.take 4).map D.str) (k := 0) (ρ := [some (told ps), some (.lst (ws.map D.str)), some (.lst ([Gu.no].map Gu.d)), none, none, none, none, none, none]) (s := st) (fun _ _ _ _ => trivial) (fun t d hd ρ s hp => by
      obtain ⟨gs, e3, hg, rfl, rfl⟩ := hp
      have hlt := (List.getElem?_eq_some_iff.mp hd).1
      simp at hlt
      rw [List.getElem?_map] at hd
      obtain ⟨z, _, rfl⟩ := Option.map_eq_some_iff.mp hd
      exact ⟨_, _, rturn1 w4 w1 (by omega), gs ++ more ws z, _, by simp [more]; omega, rfl, rfl⟩) ⟨[.no], none, Nat.le_refl _, rfl, rfl⟩
  obtain ⟨ρ2, s2, f2, e5, e6, rfl, rfl⟩ := loopF_inv (ck := fun s => stands s (gs.map Gu.d) none) (f := fstep (callN T (n + 2)) [5] true rb2)
    (fun t ρ s => ∃ (e5 e6 : Option D), ρ = [some (told ps), some (.lst (ws.map D.str)), some (.lst (gs.map Gu.d)), e3, some (.lst (ps.map pD)), e5, e6, none, none] ∧ st = s) (xs := gs.map Gu.d) (k := 0) (ρ := [some (told ps), some (.lst (ws.map D.str)), some (.lst (gs.map Gu.d)), e3, some (.lst (ps.map pD)), none, none, none, none]) (s := st) (fun _ _ _ _ => trivial) (fun t d hd ρ s hp => by
      obtain ⟨e5, e6, rfl, rfl⟩ := hp
      rw [List.getElem?_map] at hd
      obtain ⟨g, _, rfl⟩ := Option.map_eq_some_iff.mp hd
      obtain ⟨e6', e⟩ := rturn2 (n := n) H h (g := g) (st := st) (e1 := some (.lst (ws.map D.str))) (e2 := some (.lst (gs.map Gu.d))) (e3 := e3) (e4 := some (.lst (ps.map pD))) (e5 := e5) (e6 := e6) (e7 := none) (e8 := none)
      exact ⟨_, _, e, _, e6', rfl, rfl⟩) ⟨none, none, rfl, rfl⟩
  have i2 : evI (callN T (n + 2)) (.iSeq (.var 2)) [some (told ps), some (.lst (ws.map D.str)), some (.lst (gs.map Gu.d)), e3, some (.lst (ps.map pD)), none, none, none, none] st = .ok (gs.map Gu.d, none) st := by
    rw [evI, ev_var (d := .lst (gs.map Gu.d)) rfl, R.bind_ok]
    rfl
  have x5 : ev (callN T (n + 2)) (.cmp .eq (.var 4) (.prm .list true [(.var 0)])) [some (told ps), some (.lst (ws.map D.str)), some (.lst (gs.map Gu.d)), e3, some (.lst (ps.map pD)), e5, e6, none, none] st = .ok (.bl true) st := by
    have p : Mi.plain (.lst (ps.map pD)) = true := by
      unfold Mi.plain
      exact plains_all fun x hx => by obtain ⟨q, hq, rfl⟩ := List.mem_map.mp hx; exact pD_plain (h.v q hq).sn
    have dd : dep (.lst (ps.map pD)) ≤ 7 := by
      unfold dep
      exact Nat.succ_le_succ (deps_le fun x hx => by obtain ⟨q, hq, rfl⟩ := List.mem_map.mp hx; exact pD_dep (h.v q hq).sn)
    have c : comparable (.lst (ps.map pD)) (.lst (ps.map pD)) = true := by
      unfold comparable
      simp only [p, Bool.and_self, Bool.true_and, decide_eq_true_eq]
      omega
    rw [ev, ev_var (d := .lst (ps.map pD)) rfl, R.bind_ok, list_told h rfl, R.bind_ok]
    simp only [compop, look_lst', if_pos c, eqv_self _ p]
  have fin : exs (callN T (n + 2)) b12 [some (told ps), some (.lst (ws.map D.str)), none, none, none, none, none, none, none] st = .rt (.bl true) st := by
    rw [b12_eq]
    refine (asg_go x1).trans ((for_go (words4 rfl w4 w1) f1).trans ((asg_go (list_told h rfl)).trans ((for_go i2 f2).trans (ret_rt x5))))
  rw [fin, leave_rt]
  exact canon_flat0 rfl
/-! ### slots nearly alike -/
theorem idx_loc {s : Store} {L : Nat} {xs : List D} {r : Int} (h : s[L]? = some (.lst xs)) (h0 : 0 ≤ r) (h1 : r < xs.length) : ∃ d, xs[r.toNat]? = some d ∧ index (.loc L) (.int r) s = .ok d s := by
  have hk : r.toNat < xs.length := by omega
  refine ⟨xs[r.toNat], List.getElem?_eq_getElem hk, index_l (look_at h) ?_⟩
  rw [nth_nat (k := r.toNat) hk (by omega)]
  exact List.getElem?_eq_getElem hk
def nS1 : S := .iff (.and (.cmp .gt (.var 3) (.cst (.int 2))) (.cmp .isc (.idx (.var 2) (.var 3)) (.cst .non))) [.asg 3 (.cst (.int 0))] []
def bxE : E := .ite (.cmp .isc (.idx (.var 2) (.cst (.int 1))) (.cst .non)) (.tup [(.neg (.cst (.int 1))), (.cst (.int 0))]) (.tup [(.cst (.int 0)), (.cst (.int 1))])
def nwE : E := .idx (.lst true [(.idx (.lst true [(.cst (.str "seen")), (.cst (.str "held"))]) (.prm .int true [(.cmp .eq (.idx (.var 2) (.cst (.int 0))) (.cst (.str "seen")))])), (.var 4), (.idx (.lst true [(.cst (.str "zq")), (.cst (.str "zr"))]) (.prm .int true [(.cmp .eq (.idx (.var 2) (.cst (.int 2))) (.cst (.str "zq")))])), (.tup [(.cst (.int 0)), (.cst (.int 0))]), (.cst (.int 998))]) (.var 3)
def outE : E := .bin .add true (.tup [(.idx (.var 1) (.cst (.int 0))), (.tup [(.idx (.idx (.var 1) (.cst (.int 1))) (.cst (.int 0))), (.prm .tuple true [(.var 2)])])]) (.slc true (.var 1) [(.cst (.int 2))] [])
theorem b11_eq : b11 = [.iff (.cmp .lt (.prm .len true [(.var 1)]) (.cst (.int 2))) [.ret (.var 1)] [], .asg 2 (.prm .list false [(.idx (.idx (.var 1) (.cst (.int 0))) (.cst (.int 1)))]), .asg 3 (.call true 3 [(.var 0), (.cst (.int 5))] []), nS1, .asg 4 bxE, .seti (.var 2) (.var 3) nwE, .ret outE] := rfl
theorem pick2 {x y : Str} {k : Bool} {cf : Nat → List D → Store → Mi.R D} {ρ : Mi.Env} {s : Store} {e : E} (h : ev cf e ρ s = .ok (.bl k) s) : ∃ a : Str, ev cf (.idx (.lst true [(.cst (.str x)), (.cst (.str y))]) (.prm .int true [e])) ρ s = .ok (.str a) s := by
  refine ⟨if k then y else x, ?_⟩
  rw [ev, ev_lst2 ev_cst ev_cst, R.bind_ok, ev, evs, h, R.bind_ok, evs, R.bind_ok, R.bind_ok, bool_asInt, R.bind_ok]
  cases k <;> rfl
variable {l : Nat} {g : List D}
theorem near_ok (H : Has T) (hl : l < st.length) (ok : Ok2 g) (h : Sls ps) : ∃ (ps' : List SP) (g' : List D), Ok2 g' ∧ Sls ps' ∧ callN T (n + 2) 11 [.loc l, told ps] (sg st l g) = .ok (told ps') (sg st l g') := by
  have G : Gen T 3 Ok2 := genA H.h3
  have c0 : asBool (ev (callN T (n + 1)) (.cmp .lt (.prm .len true [(.var 1)]) (.cst (.int 2))) [some (.loc l), some (told ps), none, none, none] (sg st l g)) = .ok (decide ((ps.length : Int) < 2)) (sg st l g) := lt_k (by
    simp only [ev, evs, List.getElem?_cons_zero, List.getElem?_cons_succ, R.bind_ok, told, len_tu, List.length_map])
  match ps, h, c0 with
  | [], h, c0 => exact ⟨[], g, ok, h, back (n := n + 1) G H.h11 rfl ok (told_flat h) (iff_rt c0 (ret_rt (ev_var rfl)))⟩
  | [p0], h, c0 => exact ⟨[p0], g, ok, h, back (n := n + 1) G H.h11 rfl ok (told_flat h) (iff_rt c0 (ret_rt (ev_var rfl)))⟩
  | p0 :: p1 :: r, h, c0 =>
    have c0 : asBool (ev (callN T (n + 1)) (.cmp .lt (.prm .len true [(.var 1)]) (.cst (.int 2))) [some (.loc l), some (told (p0 :: p1 :: r)), none, none, none] (sg st l g)) = .ok false (sg st l g) := by
      rw [c0, decide_eq_false (by simp only [List.length_cons]; omega)]
    obtain ⟨w, z, b, m, x, e0, hb, hm, hx⟩ := h.v p0 (.head _)
    have x1 : ev (callN T (n + 1)) (.prm .list false [(.idx (.idx (.var 1) (.cst (.int 0))) (.cst (.int 1)))]) [some (.loc l), some (told (p0 :: p1 :: r)), none, none, none] (SQ st [] l g) = .ok (.loc (st.length + 0)) (SQ st [.lst [.str w, b, .str z, m, x]] l g) := by
      have y : ev (callN T (n + 1)) (.idx (.idx (.var 1) (.cst (.int 0))) (.cst (.int 1))) [some (.loc l), some (told (p0 :: p1 :: r)), none, none, none] (SQ st [] l g) = .ok (sv w b z m x) (SQ st [] l g) := by
        rw [ev, ev, ev_var (d := told (p0 :: p1 :: r)) rfl, R.bind_ok, ev_cst, R.bind_ok, show index (told (p0 :: p1 :: r)) (.int 0) (SQ st [] l g) = .ok (pD p0) (SQ st [] l g) from ix0, R.bind_ok, ev_cst, R.bind_ok]
        rw [show index (pD p0) (.int 1) (SQ st [] l g) = .ok p0.2 (SQ st [] l g) from ix1, e0]
      rw [ev, evs, y, R.bind_ok, evs, R.bind_ok, R.bind_ok]
      exact sq_new (cs := []) hl (by show 5 ≤ 1000; decide)
    have hl2 : l < (st ++ [Cell.lst [.str w, b, .str z, m, x]]).length := by rw [List.length_append]; omega
    obtain ⟨r0, y1, ok1, r0a, r0b, x2⟩ := ev_nx (n := n) (st := st ++ [.lst [.str w, b, .str z, m, x]]) (g := g) G hl2 (ρ := [some (.loc l), some (told (p0 :: p1 :: r)), some (.loc (st.length + 0)), none, none]) rfl ok (k := 5) (by decide) (by decide)
    have x2 : ev (callN T (n + 1)) (.call true 3 [(.var 0), (.cst (.int 5))] []) [some (.loc l), some (told (p0 :: p1 :: r)), some (.loc (st.length + 0)), none, none] (SQ st [.lst [.str w, b, .str z, m, x]] l g) = .ok (.int r0) (SQ st [.lst [.str w, b, .str z, m, x]] l y1) := x2
    have a0 : (SQ st [.lst [.str w, b, .str z, m, x]] l y1)[st.length + 0]? = some (.lst [.str w, b, .str z, m, x]) := sq_at hl
    generalize hs1 : SQ st [.lst [.str w, b, .str z, m, x]] l y1 = s1 at x2 a0
    obtain ⟨r1, r1a, r1b, x3⟩ : ∃ r1 : Int, 0 ≤ r1 ∧ r1 < 5 ∧ ex (callN T (n + 1)) nS1 [some (.loc l), some (told (p0 :: p1 :: r)), some (.loc (st.length + 0)), some (.int r0), none] s1 = .nx [some (.loc l), some (told (p0 :: p1 :: r)), some (.loc (st.length + 0)), some (.int r1), none] s1 := by
      obtain ⟨d, _, hd⟩ := idx_loc a0 r0a (by simpa using r0b)
      have c : ∃ k, asBool (ev (callN T (n + 1)) (.and (.cmp .gt (.var 3) (.cst (.int 2))) (.cmp .isc (.idx (.var 2) (.var 3)) (.cst .non))) [some (.loc l), some (told (p0 :: p1 :: r)), some (.loc (st.length + 0)), some (.int r0), none] s1) = .ok k s1 := by
        rw [ev, ev, ev_var (d := .int r0) rfl, R.bind_ok, ev_cst, R.bind_ok, gt_int, R.bind_ok]
        cases decide ((2 : Int) < r0) with
        | false => exact ⟨false, rfl⟩
        | true =>
          simp only [truth_bl]
          rw [ev, ev, ev_var (d := .loc (st.length + 0)) rfl, R.bind_ok, ev_var (d := .int r0) rfl, R.bind_ok, hd, R.bind_ok, ev_cst, R.bind_ok, isc_non, asBool_ok]
          exact ⟨_, rfl⟩
      obtain ⟨k, c⟩ := c
      unfold nS1
      rw [ex, c, R.toF_ok]
      cases k with
      | true => exact ⟨0, by decide, by decide, by rw [if_pos rfl]; exact (asg_go ev_cst).trans exs_nil⟩
      | false => exact ⟨r0, r0a, by omega, by rw [if_neg Bool.false_ne_true, exs_nil]⟩
    have i0 : ∀ {e4 : Option D}, ev (callN T (n + 1)) (.idx (.var 2) (.cst (.int 0))) [some (.loc l), some (told (p0 :: p1 :: r)), some (.loc (st.length + 0)), some (.int r1), e4] s1 = .ok (.str w) s1 := fun {e4} => by
      rw [ev, ev_var (d := .loc (st.length + 0)) rfl, R.bind_ok, ev_cst, R.bind_ok]
      exact index_l (look_at a0) rfl
    have i1 : ∀ {e4 : Option D}, ev (callN T (n + 1)) (.idx (.var 2) (.cst (.int 1))) [some (.loc l), some (told (p0 :: p1 :: r)), some (.loc (st.length + 0)), some (.int r1), e4] s1 = .ok b s1 := fun {e4} => by
      rw [ev, ev_var (d := .loc (st.length + 0)) rfl, R.bind_ok, ev_cst, R.bind_ok]
      exact index_l (look_at a0) rfl
    have i2 : ∀ {e4 : Option D}, ev (callN T (n + 1)) (.idx (.var 2) (.cst (.int 2))) [some (.loc l), some (told (p0 :: p1 :: r)), some (.loc (st.length + 0)), some (.int r1), e4] s1 = .ok (.str z) s1 := fun {e4} => by
      rw [ev, ev_var (d := .loc (st.length + 0)) rfl, R.bind_ok, ev_cst, R.bind_ok]
      exact index_l (look_at a0) rfl
    obtain ⟨d4, f4, x4⟩ : ∃ d4, Fl d4 ∧ ev (callN T (n + 1)) bxE [some (.loc l), some (told (p0 :: p1 :: r)), some (.loc (st.length + 0)), some (.int r1), none] s1 = .ok d4 s1 := by
      unfold bxE
      rw [ev, ev, i1, R.bind_ok, ev_cst, R.bind_ok, isc_non, asBool_ok, R.bind_ok]
      cases isNon b with
      | true => exact ⟨.tup [.int (-1), .int 0], fl_pair, by rw [if_pos rfl]; exact ev_tup2 (by rw [ev, ev_cst, R.bind_ok]) ev_cst⟩
      | false => exact ⟨.tup [.int 0, .int 1], fl_pair, by rw [if_neg Bool.false_ne_true]; exact ev_tup2 ev_cst ev_cst⟩
    obtain ⟨a1, q1⟩ := pick2 (x := "seen") (y := "held") (cf := callN T (n + 1)) (ρ := [some (.loc l), some (told (p0 :: p1 :: r)), some (.loc (st.length + 0)), some (.int r1), some d4]) (s := s1) (e := .cmp .eq (.idx (.var 2) (.cst (.int 0))) (.cst (.str "seen"))) (by rw [ev, i0, R.bind_ok, ev_cst, R.bind_ok, eq_str])
    obtain ⟨a2, q2⟩ := pick2 (x := "zq") (y := "zr") (cf := callN T (n + 1)) (ρ := [some (.loc l), some (told (p0 :: p1 :: r)), some (.loc (st.length + 0)), some (.int r1), some d4]) (s := s1) (e := .cmp .eq (.idx (.var 2) (.cst (.int 2))) (.cst (.str "zq"))) (by rw [ev, i2, R.bind_ok, ev_cst, R.bind_ok, eq_str])
    obtain ⟨nv, hnv, hni⟩ := idx_lst (xs := [.str a1, d4, .str a2, .tup [.int 0, .int 0], .int 998]) r1a (by simpa using r1b)
    have x5 : ev (callN T (n + 1)) nwE [some (.loc l), some (told (p0 :: p1 :: r)), some (.loc (st.length + 0)), some (.int r1), some d4] s1 = .ok nv s1 := by
      unfold nwE
      have y : ev (callN T (n + 1)) (.lst true [(.idx (.lst true [(.cst (.str "seen")), (.cst (.str "held"))]) (.prm .int true [(.cmp .eq (.idx (.var 2) (.cst (.int 0))) (.cst (.str "seen")))])), (.var 4), (.idx (.lst true [(.cst (.str "zq")), (.cst (.str "zr"))]) (.prm .int true [(.cmp .eq (.idx (.var 2) (.cst (.int 2))) (.cst (.str "zq")))])), (.tup [(.cst (.int 0)), (.cst (.int 0))]), (.cst (.int 998))]) [some (.loc l), some (told (p0 :: p1 :: r)), some (.loc (st.length + 0)), some (.int r1), some d4] s1 = .ok (.lst [.str a1, d4, .str a2, .tup [.int 0, .int 0], .int 998]) s1 := by
        rw [ev, evs, q1, R.bind_ok, evs, ev_var (d := d4) rfl, R.bind_ok, evs, q2, R.bind_ok, evs, ev_tup2 ev_cst ev_cst, R.bind_ok, evs, ev_cst, R.bind_ok, evs, R.bind_ok, R.bind_ok, R.bind_ok, R.bind_ok, R.bind_ok, R.bind_ok]
        exact made_old' (by show 5 ≤ 1000; decide)
      rw [ev, y, R.bind_ok, ev_var (d := .int r1) rfl, R.bind_ok, hni]
    obtain ⟨v', hv', ev'⟩ : ∃ v', Sv v' ∧ D.tup ([.str w, b, .str z, m, x].set r1.toNat nv) = v' := by
      have k5 : r1.toNat < 5 := by omega
      generalize r1.toNat = k at hnv k5
      match k, hnv, k5 with
      | 0, hnv, _ => simp at hnv; subst hnv; exact ⟨_, ⟨a1, z, b, m, x, rfl, hb, hm, hx⟩, rfl⟩
      | 1, hnv, _ => simp at hnv; subst hnv; exact ⟨_, ⟨w, z, d4, m, x, rfl, f4, hm, hx⟩, rfl⟩
      | 2, hnv, _ => simp at hnv; subst hnv; exact ⟨_, ⟨w, a2, b, m, x, rfl, hb, hm, hx⟩, rfl⟩
      | 3, hnv, _ => simp at hnv; subst hnv; exact ⟨_, ⟨w, z, b, .tup [.int 0, .int 0], x, rfl, hb, fl_pair, hx⟩, rfl⟩
      | 4, hnv, _ => simp at hnv; subst hnv; exact ⟨_, ⟨w, z, b, m, .int 998, rfl, hb, hm, fl_int⟩, rfl⟩
      | k + 5, _, h => omega
    have x6 : ex (callN T (n + 1)) (.seti (.var 2) (.var 3) nwE) [some (.loc l), some (told (p0 :: p1 :: r)), some (.loc (st.length + 0)), some (.int r1), some d4] s1 = .nx [some (.loc l), some (told (p0 :: p1 :: r)), some (.loc (st.length + 0)), some (.int r1), some d4] (SQ st [.lst ([.str w, b, .str z, m, x].set r1.toNat nv)] l y1) := by
      have k : ixN [D.str w, b, .str z, m, x].length r1 = some r1.toNat := by
        have : r1 < ([D.str w, b, .str z, m, x].length : Int) := by simpa using r1b
        simp only [ixN, r1a, if_true, this]
      rw [ex, x5, R.toF_ok, ev_var (d := .loc (st.length + 0)) rfl, R.toF_ok, ev_var (d := .int r1) rfl, R.toF_ok, set_at a0 k, R.toF_ok, ← hs1, sq_set hl, List.set_cons_zero]
    have a1' : (SQ st [.lst ([.str w, b, .str z, m, x].set r1.toNat nv)] l y1)[st.length + 0]? = some (.lst ([.str w, b, .str z, m, x].set r1.toNat nv)) := sq_at hl
    have x7 : ev (callN T (n + 1)) outE [some (.loc l), some (told (p0 :: p1 :: r)), some (.loc (st.length + 0)), some (.int r1), some d4] (SQ st [.lst ([.str w, b, .str z, m, x].set r1.toNat nv)] l y1) = .ok (told (p0 :: (p1.1, v') :: r)) (SQ st [.lst ([.str w, b, .str z, m, x].set r1.toNat nv)] l y1) := by
      generalize SQ st [.lst ([.str w, b, .str z, m, x].set r1.toNat nv)] l y1 = s2 at a1'
      have t1 : ev (callN T (n + 1)) (.idx (.var 1) (.cst (.int 0))) [some (.loc l), some (told (p0 :: p1 :: r)), some (.loc (st.length + 0)), some (.int r1), some d4] s2 = .ok (pD p0) s2 := by
        rw [ev, ev_var (d := told (p0 :: p1 :: r)) rfl, R.bind_ok, ev_cst, R.bind_ok]; exact ix0
      have t2 : ev (callN T (n + 1)) (.idx (.idx (.var 1) (.cst (.int 1))) (.cst (.int 0))) [some (.loc l), some (told (p0 :: p1 :: r)), some (.loc (st.length + 0)), some (.int r1), some d4] s2 = .ok (.str p1.1) s2 := by
        rw [ev, ev, ev_var (d := told (p0 :: p1 :: r)) rfl, R.bind_ok, ev_cst, R.bind_ok, show index (told (p0 :: p1 :: r)) (.int 1) s2 = .ok (pD p1) s2 from ix1, R.bind_ok, ev_cst, R.bind_ok]; exact ix0
      have t3 := tup_loc (cf := callN T (n + 1)) (v := 2) (ρ := [some (.loc l), some (told (p0 :: p1 :: r)), some (.loc (st.length + 0)), some (.int r1), some d4]) rfl a1'
      rw [ev'] at t3
      have t4 : ev (callN T (n + 1)) (.slc true (.var 1) [(.cst (.int 2))] []) [some (.loc l), some (told (p0 :: p1 :: r)), some (.loc (st.length + 0)), some (.int r1), some d4] s2 = .ok (.tup (r.map pD)) s2 := by
        simp only [ev, evs, List.getElem?_cons_zero, List.getElem?_cons_succ, R.bind_ok, oneIntR, oneInt, slice, told, look_tup']
        rw [cut_from ((p0 :: p1 :: r).map pD) (by decide) (by simp; omega)]
        rfl
      unfold outE
      rw [ev, ev_tup2 t1 (ev_tup2 t2 t3), R.bind_ok, t4, R.bind_ok]
      have hll := h.l
      simp only [List.length_cons] at hll
      simp only [binop, look_tup']
      rw [if_pos (small_le (b := 1000) (by simp; omega) (by decide))]
      rfl
    have S' : Sls (p0 :: (p1.1, v') :: r) := ⟨h.o, h.l, fun p hp => by
      rcases List.mem_cons.mp hp with rfl | hp
      · exact h.v _ (.head _)
      · rcases List.mem_cons.mp hp with rfl | hp
        · exact hv'
        · exact h.v p (.tail _ (.tail _ hp))⟩
    refine ⟨p0 :: (p1.1, v') :: r, y1, ok1, S', backX (n := n + 1) (x := [.lst ([.str w, b, .str z, m, x].set r1.toNat nv)]) G H.h11 rfl ok1 (told_flat S') ?_⟩
    show exs (callN T (n + 1)) b11 [some (.loc l), some (told (p0 :: p1 :: r)), none, none, none] (sg st l g) = _
    rw [b11_eq, ← sq_eq hl, ← sq_nil]
    rw [← sq_nil] at c0
    exact (iff_no c0).trans ((asg_go x1).trans ((asg_go x2).trans ((ex_go x3).trans ((asg_go x4).trans ((ex_go x6).trans (ret_rt x7))))))
end
end K15
/-! K15D: rooms drawn. -/
namespace K15
open PySem PySem.Spec Mi Dr Pr Gn
open Sl (SP pD valS dkS One Sn sn_non has_ok find_dk dct_at deps_le eqv_self ne_self look_flat pD_flat pD_plain pD_dep srt srt_p putS putS_one putS_mem putS_len put_dk it_dk headsOk_pD sortH_map set_box nin_box)
abbrev Mk := Int × Int
def mD (p : Mk) : D := .tup [.int p.1, .int p.2]
inductive Ct | sh (v : Int) | bx (ds : List D)
def Ct.d : Ct → D
  | .sh v => .tup [.str "sheet", .int v]
  | .bx ds => .tup [.str "box", .tup ds]
def Ct.Ok : Ct → Prop
  | .sh _ => True
  | .bx ds => flats ds = true
def isBx : Ct → Bool
  | .sh _ => false
  | .bx _ => true
abbrev Th := Mk × Ct
def thD (p : Th) : D := .tup [mD p.1, p.2.d]
def rmD (r : List Th) : D := .tup (r.map thD)
structure RoomOk (r : List Th) : Prop where
  l : r.length ≤ 10
  b : ∃ p ∈ r, isBx p.2 = true
  f : ∀ p ∈ r, p.2.Ok
theorem ct_flat {c : Ct} (h : c.Ok) : Mi.flat c.d = true := by
  cases c with
  | sh v => rfl
  | bx ds =>
    show (true && ((Mi.flat (.tup ds)) && true)) = true
    unfold Mi.flat
    rw [h]
    rfl
theorem th_flat {p : Th} (h : p.2.Ok) : Mi.flat (thD p) = true := by
  show (true && (Mi.flat p.2.d && true)) = true
  rw [ct_flat h]
  rfl
theorem rm_flat {r : List Th} (h : ∀ p ∈ r, p.2.Ok) : Mi.flat (rmD r) = true := by
  unfold rmD Mi.flat
  exact mem_flats fun x hx => by obtain ⟨p, hp, rfl⟩ := List.mem_map.mp hx; exact th_flat (h p hp)
theorem loopC_opt {ck : Store → Prop} {f : D → Store → Mi.R (Option D)} (P : Store → Prop) (q : D → Prop) : ∀ {xs : List D} {s : Store}, (∀ s, P s → ck s) → (∀ x ∈ xs, ∀ s, P s → ∃ o s', f x s = .ok o s' ∧ P s' ∧ ∀ d, o = some d → q d) → P s →
    ∃ ys s', loopC ck f xs s = .ok ys s' ∧ P s' ∧ ys.length ≤ xs.length ∧ ∀ d ∈ ys, q d
  | [], s, hc, _, h => ⟨[], s, by unfold loopC; rw [if_pos (hc _ h)], h, Nat.le_refl _, fun _ h => by cases h⟩
  | x :: xs, s, hc, hf, h => by
    obtain ⟨o, s1, e1, h1, hq⟩ := hf x (.head _) s h
    obtain ⟨ys, s2, e2, h2, hl, hy⟩ := loopC_opt P q (xs := xs) hc (fun y hy => hf y (.tail _ hy)) h1
    refine ⟨o.toList ++ ys, s2, ?_, h2, ?_, fun d hd => ?_⟩
    · unfold loopC
      rw [if_pos (hc _ h), e1]
      simp only [R.bind_ok, e2]
    · rw [List.length_append, List.length_cons]
      cases o <;> simp <;> omega
    · rcases List.mem_append.mp hd with hd | hd
      · cases o with
        | none => cases hd
        | some z =>
          simp at hd
          subst hd
          exact hq _ rfl
      · exact hy d hd
section
variable {T : List Fn} {n : Nat} {st : Store} {l : Nat} {g : List D} {ws : List Str}
theorem Has.G (H : Has T) : Gen T 3 Ok2 := genA H.h3
theorem list_of {α : Type} (enc : α → D) (Q : α → Prop) : ∀ {xs : List D}, (∀ d ∈ xs, ∃ a, d = enc a ∧ Q a) → ∃ as : List α, xs = as.map enc ∧ ∀ a ∈ as, Q a
  | [], _ => ⟨[], rfl, fun _ h => by cases h⟩
  | x :: xs, h => by
    obtain ⟨z, rfl, hz⟩ := h x (.head _)
    obtain ⟨zs, rfl, hs⟩ := list_of enc Q (xs := xs) fun d hd => h d (.tail _ hd)
    exact ⟨z :: zs, rfl, fun s hs' => by
      rcases List.mem_cons.mp hs' with rfl | hs'
      · exact hz
      · exact hs s hs'⟩
/-- marks by a comprehension over a range -/
theorem marks_ev {cf : Nat → List D → Store → Mi.R D} {ρ : Mi.Env} {s s1 : Store} {it elt : E} {m : Nat} (hi : evI cf it ρ s = .ok ((List.range m).map (fun (k : Nat) => D.int (0 + (k : Int))), none) s1) (hm : m ≤ 100) (f : Nat → Mk) (he : ∀ k : Nat, ev cf elt ((Mi.wipe ρ [8]).set 8 (some (.int (0 + (k : Int))))) s1 = .ok (mD (f k)) s1) : ev cf (.comp true [8] [8] true it [] elt) ρ s = .ok (.lst (((List.range m).map f).map mD)) s1 := by
  rw [ev_comp, hi, R.bind_ok]
  have lc := loopC_flt (ck := fun s => stands s ((List.range m).map (fun (k : Nat) => D.int (0 + (k : Int)))) none) (f := cstep cf [8] [8] true [] elt ρ) (s := s1) trivial (fun (k : Nat) => D.int (0 + (k : Int))) (fun _ => true) (fun k => mD (f k)) (xs := List.range m) fun k _ => by
    unfold cstep
    simp only [bindT, if_true, put, evc, R.calm_ok, R.bind_ok, he]
  rw [lc, R.bind_ok, show ((List.range m).filter fun _ => true) = List.range m from List.filter_eq_self.mpr fun _ _ => rfl, List.map_map]
  exact made_old' (by simp; omega)
abbrev ρM (l : Nat) (ws : List Str) (e2 e3 e4 e5 e6 e7 e8 : Option D) : Mi.Env := [some (.loc l), some (.lst (ws.map D.str)), e2, e3, e4, e5, e6, e7, e8]
def shE : E := .comp true [8] [8] true (.iRng [(.bin .add true (.cst (.int 1)) (.call true 3 [(.var 0), (.cst (.int 3))] []))]) [] (.tup [(.neg (.cst (.int 1))), (.bin .add true (.cst (.int 1)) (.var 8))])
def bxE' : E := .comp true [8] [8] true (.iRng [(.call true 3 [(.var 0), (.cst (.int 3))] [])]) [] (.tup [(.neg (.cst (.int 1))), (.bin .add true (.cst (.int 10)) (.bin .mul true (.cst (.int 5)) (.var 8)))])
theorem neg1 {cf : Nat → List D → Store → Mi.R D} {ρ : Mi.Env} {s : Store} : ev cf (.neg (.cst (.int 1))) ρ s = .ok (.int (-1)) s := by rw [ev, ev_cst, R.bind_ok]
theorem sheets_ev (H : Has T) (hl : l < st.length) (ok : Ok2 g) {e2 e3 e4 e5 e6 e7 e8 : Option D} : ∃ (ss : List Mk) (g' : List D), Ok2 g' ∧ 0 < ss.length ∧ ss.length ≤ 3 ∧ ev (callN T (n + 1)) shE (ρM l ws e2 e3 e4 e5 e6 e7 e8) (sg st l g) = .ok (.lst (ss.map mD)) (sg st l g') := by
  obtain ⟨r, y1, ok1, p, q, x⟩ := ev_nx (n := n) H.G hl (ρ := ρM l ws e2 e3 e4 e5 e6 e7 e8) rfl ok (k := 3) (by decide) (by decide)
  have x : ev (callN T (n + 1)) (.call true 3 [(.var 0), (.cst (.int 3))] []) (ρM l ws e2 e3 e4 e5 e6 e7 e8) (sg st l g) = .ok (.int r) (sg st l y1) := x
  have i : evI (callN T (n + 1)) (.iRng [(.bin .add true (.cst (.int 1)) (.call true 3 [(.var 0), (.cst (.int 3))] []))]) (ρM l ws e2 e3 e4 e5 e6 e7 e8) (sg st l g) = .ok ((List.range (1 + r).toNat).map (fun (k : Nat) => D.int (0 + (k : Int))), none) (sg st l y1) :=
    iRng_ev (ds := [.int (1 + r)]) (by rw [evs, ev, ev_cst, R.bind_ok, x, R.bind_ok, add_int, R.bind_ok, evs, R.bind_ok]) (rangeD1 (inRI (by omega) (by omega)))
  refine ⟨(List.range (1 + r).toNat).map fun (k : Nat) => ((-1, 1 + (0 + (k : Int))) : Mk), y1, ok1, by simp; omega, by simp; omega, ?_⟩
  refine marks_ev i (by omega) _ fun k => ?_
  simp only [Mi.wipe, List.set_cons_zero, List.set_cons_succ]
  exact ev_tup2 neg1 (by rw [ev, ev_cst, R.bind_ok, ev_var (d := .int (0 + (k : Int))) rfl, R.bind_ok, add_int])
theorem boxes_ev (H : Has T) (hl : l < st.length) (ok : Ok2 g) {e2 e3 e4 e5 e6 e7 e8 : Option D} : ∃ (bs : List Mk) (g' : List D), Ok2 g' ∧ bs.length ≤ 2 ∧ ev (callN T (n + 1)) bxE' (ρM l ws e2 e3 e4 e5 e6 e7 e8) (sg st l g) = .ok (.lst (bs.map mD)) (sg st l g') := by
  obtain ⟨q, y1, ok1, hq, i⟩ := rng_k (n := n) H.G hl (ρ := ρM l ws e2 e3 e4 e5 e6 e7 e8) rfl ok (k := 3) (by decide) (by decide)
  refine ⟨(List.range q).map fun (k : Nat) => ((-1, 10 + 5 * (0 + (k : Int))) : Mk), y1, ok1, by simp; omega, ?_⟩
  refine marks_ev i (by omega) _ fun k => ?_
  simp only [Mi.wipe, List.set_cons_zero, List.set_cons_succ]
  exact ev_tup2 neg1 (by rw [ev, ev_cst, R.bind_ok, ev, ev_cst, R.bind_ok, ev_var (d := .int (0 + (k : Int))) rfl, R.bind_ok, mul_int (.inl (by decide)), R.bind_ok, add_int])
/-- one of the numbers, one of the marks -/
theorem pk_in (H : Has T) (hl : l < st.length) {ρ : Mi.Env} (hρ : ρ[0]? = some (some (.loc l))) {g1 : List D} (ok : Ok2 g1) {α : Type} {enc : α → D} {xs : List α} {e : E} (he : ev (callN T (n + 2)) e ρ (sg st l g) = .ok (.lst (xs.map enc)) (sg st l g1)) (h0 : 0 < xs.length) (h1 : xs.length ≤ 1000) (hf : ∀ a ∈ xs, Mi.flat (enc a) = true) :
    ∃ (a : α) (g' : List D), Ok2 g' ∧ a ∈ xs ∧ ev (callN T (n + 2)) (.call true 4 [(.var 0), e] []) ρ (sg st l g) = .ok (enc a) (sg st l g') := by
  obtain ⟨d, g', ok', hm, x⟩ := ev_pk (n := n) H.G H.h4 hl hρ ok he (by simpa using h0) (by simpa using h1) (fun x hx => by obtain ⟨a, ha, rfl⟩ := List.mem_map.mp hx; exact hf a ha)
  obtain ⟨a, ha, rfl⟩ := List.mem_map.mp hm
  exact ⟨a, g', ok', ha, x⟩
def vE : E := .tup [(.var 5), (.tup [(.cst (.str "sheet")), (.call true 4 [(.var 0), (.lst true [(.cst (.int 0)), (.cst (.int 5)), (.cst (.int 7)), (.cst (.int 999))])] [])])]
def tgE : E := .comp false [5] [5] true (.iSeq (.var 2)) [] vE
theorem things_ev (H : Has T) (hl : l < st.length) (ok : Ok2 g) {ss : List Mk} (sl : ss.length ≤ 3) {e3 e4 e5 e6 e7 e8 : Option D} : ∃ (ts : List Th) (g' : List D), Ok2 g' ∧ ts.length ≤ 3 ∧ (∀ p ∈ ts, p.2.Ok) ∧ ev (callN T (n + 2)) tgE (ρM l ws (some (.lst (ss.map mD))) e3 e4 e5 e6 e7 e8) (sg st l g) = .ok (.loc (st.length + 0)) (SQ st [.lst (ts.map thD)] l g') := by
  have i1 : evI (callN T (n + 2)) (.iSeq (.var 2)) (ρM l ws (some (.lst (ss.map mD))) e3 e4 e5 e6 e7 e8) (sg st l g) = .ok (ss.map mD, none) (sg st l g) := by
    rw [evI, ev_var (d := .lst (ss.map mD)) rfl, R.bind_ok]
    rfl
  obtain ⟨ys, s', e, ⟨g', ok', rfl⟩, yl, hy⟩ := loopC_opt (ck := fun s => stands s (ss.map mD) none) (f := cstep (callN T (n + 2)) [5] [5] true [] vE (ρM l ws (some (.lst (ss.map mD))) e3 e4 e5 e6 e7 e8))
    (fun s => ∃ g', Ok2 g' ∧ s = sg st l g') (fun d => ∃ p : Th, d = thD p ∧ p.2.Ok) (xs := ss.map mD) (s := sg st l g) (fun _ _ => trivial) (fun x hx s hp => by
      obtain ⟨g1, ok1, rfl⟩ := hp
      obtain ⟨m, _, rfl⟩ := List.mem_map.mp hx
      have y : ev (callN T (n + 2)) (.lst true [(.cst (.int 0)), (.cst (.int 5)), (.cst (.int 7)), (.cst (.int 999))]) [some (.loc l), some (.lst (ws.map D.str)), some (.lst (ss.map mD)), e3, e4, some (mD m), e6, e7, e8] (sg st l g1) = .ok (.lst (([0, 5, 7, 999] : List Int).map D.int)) (sg st l g1) := by
        rw [ev, evs, ev_cst, R.bind_ok, evs, ev_cst, R.bind_ok, evs, ev_cst, R.bind_ok, evs, ev_cst, R.bind_ok, evs, R.bind_ok, R.bind_ok, R.bind_ok, R.bind_ok, R.bind_ok]
        exact made_old' (by show 4 ≤ 1000; decide)
      obtain ⟨v, g2, ok2, _, x2⟩ := pk_in (n := n) H hl (ρ := [some (.loc l), some (.lst (ws.map D.str)), some (.lst (ss.map mD)), e3, e4, some (mD m), e6, e7, e8]) rfl ok1 (enc := D.int) y (by decide) (by decide) (fun _ _ => rfl)
      refine ⟨some (thD (m, .sh v)), sg st l g2, ?_, ⟨g2, ok2, rfl⟩, fun d hd => ⟨(m, .sh v), (Option.some.inj hd).symm, trivial⟩⟩
      unfold cstep
      simp only [bindT, if_true, put, Mi.wipe, List.set_cons_zero, List.set_cons_succ, evc, R.calm_ok, R.bind_ok]
      unfold vE
      rw [ev_tup2 (ev_var (d := mD m) rfl) (ev_tup2 ev_cst x2), R.calm_ok, R.bind_ok]
      rfl) ⟨g, ok, rfl⟩
  obtain ⟨ts, rfl, ht⟩ := list_of thD (fun p : Th => p.2.Ok) hy
  have tl : ts.length ≤ 3 := by simp at yl; omega
  refine ⟨ts, g', ok', tl, ht, ?_⟩
  unfold tgE
  rw [ev_comp, i1, R.bind_ok, e, R.bind_ok, ← sq_nil]
  exact sq_new (cs := []) hl (by rw [List.length_map]; omega)
def rwE : E := .comp false [7] [7] true (.iSeq (.prm .sorted true [(.slc true (.var 1) [] [(.cst (.int 3))])])) [(.cmp .eq (.call true 3 [(.var 0), (.cst (.int 2))] []) (.cst (.int 0)))] (.tup [(.var 7), (.call true 4 [(.var 0), (.var 2)] [])])
def bb : List S := [.asg 6 rwE, .exp (.mth .append true (.var 4) [(.tup [(.var 5), (.tup [(.cst (.str "box")), (.prm .tuple true [(.var 6)])])])])]
theorem rows_ev (H : Has T) (hl : l < st.length) (ok : Ok2 g) (w3 : 3 ≤ ws.length) (w1 : ws.length ≤ 100) {cs : List Cell} {ss : List Mk} (s0 : 0 < ss.length) (sl : ss.length ≤ 3) {e3 e4 e5 e6 e7 e8 : Option D} : ∃ (ds : List D) (g' : List D), Ok2 g' ∧ flats ds = true ∧ ev (callN T (n + 2)) rwE (ρM l ws (some (.lst (ss.map mD))) e3 e4 e5 e6 e7 e8) (SQ st cs l g) = .ok (.loc (st.length + cs.length)) (SQ st (cs ++ [.lst ds]) l g') := by
  have hl2 : l < (st ++ cs).length := by rw [List.length_append]; omega
  have x0 : ev (callN T (n + 2)) (.slc true (.var 1) [] [(.cst (.int 3))]) (ρM l ws (some (.lst (ss.map mD))) e3 e4 e5 e6 e7 e8) (SQ st cs l g) = .ok (.lst ((ws.take 3).map D.str)) (SQ st cs l g) := ev_slc (k := 3) rfl w3 w1
  have x1 : ev (callN T (n + 2)) (.prm .sorted true [(.slc true (.var 1) [] [(.cst (.int 3))])]) (ρM l ws (some (.lst (ss.map mD))) e3 e4 e5 e6 e7 e8) (SQ st cs l g) = .ok (.lst (sortD ((ws.take 3).map D.str))) (SQ st cs l g) := by
    rw [ev, evs, x0, R.bind_ok, evs, R.bind_ok, R.bind_ok]
    simp only [prim, look_lst']
    rw [if_pos (sortOk_strs (by simp; omega))]
    exact made_old' (by rw [(Sl.sortD_p _).length_eq, List.length_map]; simp; omega)
  have kl : (sortD ((ws.take 3).map D.str)).length ≤ 3 := by rw [(Sl.sortD_p _).length_eq, List.length_map]; simp; omega
  have kf : ∀ d ∈ sortD ((ws.take 3).map D.str), ∃ z : Str, d = .str z := fun d hd => by
    obtain ⟨z, _, rfl⟩ := List.mem_map.mp ((Sl.sortD_p _).mem_iff.mp hd)
    exact ⟨z, rfl⟩
  generalize sortD ((ws.take 3).map D.str) = ks at x1 kl kf
  have i1 : evI (callN T (n + 2)) (.iSeq (.prm .sorted true [(.slc true (.var 1) [] [(.cst (.int 3))])])) (ρM l ws (some (.lst (ss.map mD))) e3 e4 e5 e6 e7 e8) (SQ st cs l g) = .ok (ks, none) (SQ st cs l g) := by
    rw [evI, x1, R.bind_ok]
    rfl
  obtain ⟨ys, s', e, ⟨g', ok', rfl⟩, yl, hy⟩ := loopC_opt (ck := fun s => stands s ks none) (f := cstep (callN T (n + 2)) [7] [7] true [(.cmp .eq (.call true 3 [(.var 0), (.cst (.int 2))] []) (.cst (.int 0)))] (.tup [(.var 7), (.call true 4 [(.var 0), (.var 2)] [])]) (ρM l ws (some (.lst (ss.map mD))) e3 e4 e5 e6 e7 e8))
    (fun s => ∃ g', Ok2 g' ∧ s = SQ st cs l g') (fun d => Mi.flat d = true) (xs := ks) (s := SQ st cs l g) (fun _ _ => trivial) (fun x hx s hp => by
      obtain ⟨g1, ok1, rfl⟩ := hp
      obtain ⟨z, rfl⟩ := kf x hx
      obtain ⟨r, g2, ok2, _, _, x2⟩ := ev_nx (n := n + 1) (st := st ++ cs) (g := g1) H.G hl2 (ρ := [some (.loc l), some (.lst (ws.map D.str)), some (.lst (ss.map mD)), e3, e4, e5, e6, some (.str z), e8]) rfl ok1 (k := 2) (by decide) (by decide)
      have c2 : asBool (ev (callN T (n + 2)) (.cmp .eq (.call true 3 [(.var 0), (.cst (.int 2))] []) (.cst (.int 0))) [some (.loc l), some (.lst (ws.map D.str)), some (.lst (ss.map mD)), e3, e4, e5, e6, some (.str z), e8] (SQ st cs l g1)) = .ok (r == 0) (SQ st cs l g2) := eq_k x2
      cases er : (r == 0) with
      | false =>
        rw [er] at c2
        refine ⟨none, SQ st cs l g2, ?_, ⟨g2, ok2, rfl⟩, fun d hd => by cases hd⟩
        unfold cstep
        simp only [bindT, if_true, put, Mi.wipe, List.set_cons_zero, List.set_cons_succ, evc, c2, R.bind_ok, Bool.false_eq_true, if_false, R.calm_ok]
      | true =>
        rw [er] at c2
        obtain ⟨m, g3, ok3, _, x3⟩ := pk_in (n := n) (st := st ++ cs) (g := g2) H hl2 (ρ := [some (.loc l), some (.lst (ws.map D.str)), some (.lst (ss.map mD)), e3, e4, e5, e6, some (.str z), e8]) rfl ok2 (e := .var 2) (enc := mD) (xs := ss) (ev_var rfl) s0 (by omega) (fun _ _ => rfl)
        have x3 : ev (callN T (n + 2)) (.call true 4 [(.var 0), (.var 2)] []) [some (.loc l), some (.lst (ws.map D.str)), some (.lst (ss.map mD)), e3, e4, e5, e6, some (.str z), e8] (SQ st cs l g2) = .ok (mD m) (SQ st cs l g3) := x3
        refine ⟨some (.tup [.str z, mD m]), SQ st cs l g3, ?_, ⟨g3, ok3, rfl⟩, fun d hd => by cases hd; rfl⟩
        unfold cstep
        simp only [bindT, if_true, put, Mi.wipe, List.set_cons_zero, List.set_cons_succ, evc, c2, R.bind_ok, R.calm_ok]
        rw [ev_tup2 (ev_var (d := .str z) rfl) x3, R.calm_ok, R.bind_ok]) ⟨g, ok, rfl⟩
  refine ⟨ys, g', ok', mem_flats hy, ?_⟩
  unfold rwE
  rw [ev_comp, i1, R.bind_ok, e, R.bind_ok]
  exact sq_new hl (by omega)
theorem bturn (H : Has T) (hl : l < st.length) (ok : Ok2 g) (w3 : 3 ≤ ws.length) (w1 : ws.length ≤ 100) {cs : List Cell} {ss bs : List Mk} (s0 : 0 < ss.length) (sl : ss.length ≤ 3) {ts : List Th} (hc : cs[0]? = some (.lst (ts.map thD))) (tl : ts.length ≤ 20) (tok : ∀ p ∈ ts, p.2.Ok) {m : Mk} {e5 e6 e7 e8 : Option D} : ∃ (cs' : List Cell) (ts' : List Th) (g' : List D) (e6' : Option D), Ok2 g' ∧ cs'[0]? = some (.lst (ts'.map thD)) ∧ ts'.length = ts.length + 1 ∧ (∀ p ∈ ts', p.2.Ok) ∧
    fstep (callN T (n + 2)) [5] true bb (mD m) (ρM l ws (some (.lst (ss.map mD))) (some (.lst (bs.map mD))) (some (.loc (st.length + 0))) e5 e6 e7 e8) (SQ st cs l g) = .nx (ρM l ws (some (.lst (ss.map mD))) (some (.lst (bs.map mD))) (some (.loc (st.length + 0))) (some (mD m)) e6' e7 e8) (SQ st cs' l g') := by
  unfold fstep ρM
  simp only [bindT, if_true, put, List.set_cons_zero, List.set_cons_succ]
  obtain ⟨ds, y1, ok1, df, x1⟩ := rows_ev (n := n) H hl ok w3 w1 (cs := cs) s0 sl (e3 := some (.lst (bs.map mD))) (e4 := some (.loc (st.length + 0))) (e5 := some (mD m)) (e6 := e6) (e7 := e7) (e8 := e8)
  have c0 : 0 < cs.length := (List.getElem?_eq_some_iff.mp hc).1
  have a0 : (SQ st (cs ++ [.lst ds]) l y1)[st.length + 0]? = some (.lst (ts.map thD)) := by rw [sq_at hl, List.getElem?_append_left c0]; exact hc
  have a1 : (SQ st (cs ++ [.lst ds]) l y1)[st.length + cs.length]? = some (.lst ds) := by rw [sq_at hl, List.getElem?_append_right (Nat.le_refl _), Nat.sub_self]; rfl
  have x2 : ev (callN T (n + 2)) (.tup [(.var 5), (.tup [(.cst (.str "box")), (.prm .tuple true [(.var 6)])])]) [some (.loc l), some (.lst (ws.map D.str)), some (.lst (ss.map mD)), some (.lst (bs.map mD)), some (.loc (st.length + 0)), some (mD m), some (.loc (st.length + cs.length)), e7, e8] (SQ st (cs ++ [.lst ds]) l y1) = .ok (thD (m, .bx ds)) (SQ st (cs ++ [.lst ds]) l y1) :=
    ev_tup2 (ev_var rfl) (ev_tup2 ev_cst (tup_loc rfl a1))
  refine ⟨(cs ++ [Cell.lst ds]).set 0 (Cell.lst ((ts ++ [(m, Ct.bx ds)]).map thD)), ts ++ [(m, Ct.bx ds)], y1, some (.loc (st.length + cs.length)), ok1, List.getElem?_set_self (by simp), by simp, fun p hp => ?_, ?_⟩
  · rcases List.mem_append.mp hp with hp | hp
    · exact tok p hp
    · rw [List.mem_singleton.mp hp]; exact df
  · unfold bb
    refine (asg_go x1).trans ?_
    simp only [List.set_cons_zero, List.set_cons_succ]
    rw [exp_app (L := st.length + 0) rfl a0 x2 a0 (by rw [List.length_map]; omega), exs_nil, sq_set hl, List.map_append]
    rfl
end
end K15
/-! K15E: rooms drawn, to the end. -/
namespace K15
open PySem PySem.Spec Mi Dr Pr Gn
open Sl (SP pD valS dkS One Sn sn_non has_ok find_dk dct_at deps_le eqv_self ne_self look_flat pD_flat pD_plain pD_dep srt srt_p putS putS_one putS_mem putS_len put_dk it_dk headsOk_pD sortH_map set_box nin_box)
structure NmOk (nm : List SP) : Prop where
  o : One nm
  v : ∀ p ∈ nm, ∃ m, p.2 = mD m
theorem nm_nil : NmOk [] := ⟨List.nodup_nil, fun _ h => by cases h⟩
theorem NmOk.put {nm : List SP} (h : NmOk nm) (w : Str) (m : Mk) : NmOk (putS nm w (mD m)) := ⟨putS_one h.o _ _, fun p hp => by
  rcases putS_mem hp with hp | rfl
  · exact h.v p hp
  · exact ⟨m, rfl⟩⟩
theorem last_set {cs : List Cell} {c d : Cell} : (cs ++ [c]).set cs.length d = cs ++ [d] := by
  rw [List.set_append_right _ _ (Nat.le_refl _), Nat.sub_self, List.set_cons_zero]
section
variable {T : List Fn} {n : Nat} {st : Store} {l : Nat} {g : List D} {ws : List Str} {cs : List Cell} {nm : List SP}
theorem last_at (hl : l < st.length) : (SQ st (cs ++ [.dk (dkS nm)]) l g)[st.length + cs.length]? = some (.dk (dkS nm)) := by rw [sq_at hl, List.getElem?_append_right (Nat.le_refl _), Nat.sub_self]; rfl
theorem dic_ev {cf : Nat → List D → Store → Mi.R D} {ρ : Mi.Env} (hl : l < st.length) : ev cf (.dic []) ρ (SQ st cs l g) = .ok (.loc (st.length + cs.length)) (SQ st (cs ++ [.dk (dkS [])]) l g) := by
  rw [ev, evs, R.bind_ok]
  show R.ok (D.loc (SQ st cs l g).length) (SQ st cs l g ++ [.dk []]) = _
  rw [sq_len, sq_push hl]
  rfl
/-- a name is put -/
theorem put_ex {cf : Nat → List D → Store → Mi.R D} {ρ : Mi.Env} {v k : Nat} {w : Str} {d : D} {e : E} {g' : List D} (hl : l < st.length) (hn : nm.length ≤ 100) (he : ev cf e ρ (SQ st (cs ++ [.dk (dkS nm)]) l g) = .ok d (SQ st (cs ++ [.dk (dkS nm)]) l g')) (hv : ρ[v]? = some (some (.loc (st.length + cs.length)))) (hk : ρ[k]? = some (some (.str w))) : ex cf (.seti (.var v) (.var k) e) ρ (SQ st (cs ++ [.dk (dkS nm)]) l g) = .nx ρ (SQ st (cs ++ [.dk (dkS (putS nm w d))]) l g') := by
  rw [ex, he, R.toF_ok, ev_var hv, R.toF_ok, ev_var hk, R.toF_ok, set_box (last_at hl) (by unfold dkS; rw [List.length_map]; omega), R.toF_ok, sq_set hl, last_set, put_dk]
theorem zip_eq : ∀ (xs : List Str) (ys : List Mk), zipD (xs.map D.str) (ys.map mD) = (xs.zip ys).map fun p => D.tup [.str p.1, mD p.2]
  | [], _ => rfl
  | _ :: _, [] => rfl
  | x :: xs, y :: ys => by
    have := zip_eq xs ys
    unfold zipD at this
    unfold zipD
    simp only [List.map_cons, List.zipWith_cons_cons, List.zip_cons_cons, this]
def zipI : E := .iZip (.rev true (.var 1)) (.var 3)
def zb : List S := [.iff (.cmp .gt (.call true 3 [(.var 0), (.cst (.int 4))] []) (.cst (.int 0))) [.seti (.var 6) (.var 7) (.var 5)] []]
def wb : List S := [.iff (.and (.cmp .nin (.var 7) (.var 6)) (.cmp .gt (.call true 3 [(.var 0), (.cst (.int 3))] []) (.cst (.int 0)))) [.seti (.var 6) (.var 7) (.call true 4 [(.var 0), (.var 2)] [])] []]
theorem zip_ev {cf : Nat → List D → Store → Mi.R D} {s : Store} (w1 : ws.length ≤ 100) {bs : List Mk} {e2 e4 e5 e6 e7 e8 : Option D} : evI cf zipI (ρM l ws e2 (some (.lst (bs.map mD))) e4 e5 e6 e7 e8) s = .ok ((ws.reverse.zip bs).map fun p => D.tup [.str p.1, mD p.2], none) s := by
  have x1 : ev cf (.rev true (.var 1)) (ρM l ws e2 (some (.lst (bs.map mD))) e4 e5 e6 e7 e8) s = .ok (.lst (ws.reverse.map D.str)) s := by
    rw [ev, ev_var (d := .lst (ws.map D.str)) rfl, R.bind_ok]
    simp only [backward, look_lst', ← List.map_reverse]
    exact made_old' (by simp; omega)
  have np : ((ws.reverse.zip bs).map fun p => D.tup [.str p.1, mD p.2]).any pairyT = false := by
    rw [List.any_eq_false]
    intro d hd
    obtain ⟨p, _, rfl⟩ := List.mem_map.mp hd
    simp [pairyT, pairy, pairHd]
  unfold zipI
  rw [evI, x1, R.bind_ok, ev_var (d := .lst (bs.map mD)) rfl, R.bind_ok]
  simp only [zip_eq, np, Bool.false_eq_true, if_false]
theorem zturn (H : Has T) (hl : l < st.length) (ok : Ok2 g) (hn : NmOk nm) (nl : nm.length ≤ 20) {p : Str × Mk} {e2 e3 e4 e5 e7 e8 : Option D} : ∃ (nm' : List SP) (g' : List D), Ok2 g' ∧ NmOk nm' ∧ nm'.length ≤ nm.length + 1 ∧
    fstep (callN T (n + 2)) [7, 5] false zb (D.tup [.str p.1, mD p.2]) (ρM l ws e2 e3 e4 e5 (some (.loc (st.length + cs.length))) e7 e8) (SQ st (cs ++ [.dk (dkS nm)]) l g) = .nx (ρM l ws e2 e3 e4 (some (mD p.2)) (some (.loc (st.length + cs.length))) (some (.str p.1)) e8) (SQ st (cs ++ [.dk (dkS nm')]) l g') := by
  have hl2 : l < (st ++ (cs ++ [Cell.dk (dkS nm)])).length := by rw [List.length_append]; omega
  unfold fstep ρM
  simp only [bindT, Bool.false_eq_true, if_false, look_tup', put, List.set_cons_zero, List.set_cons_succ]
  obtain ⟨r, y1, ok1, _, _, x1⟩ := ev_nx (n := n + 1) (st := st ++ (cs ++ [.dk (dkS nm)])) (g := g) H.G hl2 (ρ := [some (.loc l), some (.lst (ws.map D.str)), e2, e3, e4, some (mD p.2), some (.loc (st.length + cs.length)), some (.str p.1), e8]) rfl ok (k := 4) (by decide) (by decide)
  have c : asBool (ev (callN T (n + 2)) (.cmp .gt (.call true 3 [(.var 0), (.cst (.int 4))] []) (.cst (.int 0))) [some (.loc l), some (.lst (ws.map D.str)), e2, e3, e4, some (mD p.2), some (.loc (st.length + cs.length)), some (.str p.1), e8] (SQ st (cs ++ [.dk (dkS nm)]) l g)) = .ok (decide (0 < r)) (SQ st (cs ++ [.dk (dkS nm)]) l y1) := gt_k x1
  unfold zb
  cases e : decide (0 < r) with
  | false =>
    rw [e] at c
    exact ⟨nm, y1, ok1, hn, by omega, (iff_no c).trans exs_nil⟩
  | true =>
    rw [e] at c
    exact ⟨putS nm p.1 (mD p.2), y1, ok1, hn.put _ _, putS_len _ _, (iff_go c ((ex_go (put_ex hl (by omega) (ev_var rfl) rfl rfl)).trans exs_nil)).trans exs_nil⟩
theorem wturn (H : Has T) (hl : l < st.length) (ok : Ok2 g) (hn : NmOk nm) (nl : nm.length ≤ 20) {ss : List Mk} (s0 : 0 < ss.length) (sl : ss.length ≤ 3) {w : Str} {e3 e4 e5 e7 e8 : Option D} : ∃ (nm' : List SP) (g' : List D), Ok2 g' ∧ NmOk nm' ∧ nm'.length ≤ nm.length + 1 ∧
    fstep (callN T (n + 2)) [7] true wb (.str w) (ρM l ws (some (.lst (ss.map mD))) e3 e4 e5 (some (.loc (st.length + cs.length))) e7 e8) (SQ st (cs ++ [.dk (dkS nm)]) l g) = .nx (ρM l ws (some (.lst (ss.map mD))) e3 e4 e5 (some (.loc (st.length + cs.length))) (some (.str w)) e8) (SQ st (cs ++ [.dk (dkS nm')]) l g') := by
  have hl2 : l < (st ++ (cs ++ [Cell.dk (dkS nm)])).length := by rw [List.length_append]; omega
  unfold fstep ρM
  simp only [bindT, if_true, put, List.set_cons_zero, List.set_cons_succ]
  have c : ∃ (k : Bool) (y1 : List D), Ok2 y1 ∧ asBool (ev (callN T (n + 2)) (.and (.cmp .nin (.var 7) (.var 6)) (.cmp .gt (.call true 3 [(.var 0), (.cst (.int 3))] []) (.cst (.int 0)))) [some (.loc l), some (.lst (ws.map D.str)), some (.lst (ss.map mD)), e3, e4, e5, some (.loc (st.length + cs.length)), some (.str w), e8] (SQ st (cs ++ [.dk (dkS nm)]) l g)) = .ok k (SQ st (cs ++ [.dk (dkS nm)]) l y1) := by
    rw [ev, ev, ev_var (d := .str w) rfl, R.bind_ok, ev_var (d := .loc (st.length + cs.length)) rfl, R.bind_ok, nin_box (last_at hl), R.bind_ok]
    cases (!(dval (dkS nm) (.inr w)).isSome) with
    | false => exact ⟨false, g, ok, rfl⟩
    | true =>
      simp only [truth_bl]
      obtain ⟨r, y1, ok1, _, _, x1⟩ := ev_nx (n := n + 1) (st := st ++ (cs ++ [.dk (dkS nm)])) (g := g) H.G hl2 (ρ := [some (.loc l), some (.lst (ws.map D.str)), some (.lst (ss.map mD)), e3, e4, e5, some (.loc (st.length + cs.length)), some (.str w), e8]) rfl ok (k := 3) (by decide) (by decide)
      exact ⟨_, y1, ok1, gt_k x1⟩
  obtain ⟨k, y1, ok1, c⟩ := c
  unfold wb
  cases k with
  | false => exact ⟨nm, y1, ok1, hn, by omega, (iff_no c).trans exs_nil⟩
  | true =>
    obtain ⟨m, y2, ok2, _, x2⟩ := pk_in (n := n) (st := st ++ (cs ++ [.dk (dkS nm)])) (g := y1) H hl2 (ρ := [some (.loc l), some (.lst (ws.map D.str)), some (.lst (ss.map mD)), e3, e4, e5, some (.loc (st.length + cs.length)), some (.str w), e8]) rfl ok1 (e := .var 2) (enc := mD) (xs := ss) (ev_var rfl) s0 (by omega) (fun _ _ => rfl)
    exact ⟨putS nm w (mD m), y2, ok2, hn.put _ _, putS_len _ _, (iff_go c ((ex_go (put_ex hl (by omega) x2 rfl rfl)).trans exs_nil)).trans exs_nil⟩
def outR : E := .bin .add true (.tup [(.tup [(.tup [(.neg (.cst (.int 1))), (.cst (.int 0))]), (.tup [(.cst (.str "box")), (.prm .tuple true [(.sit (.var 6))])])])]) (.prm .tuple true [(.var 4)])
theorem b7_eq : b7 = [.asg 2 shE, .asg 3 bxE', .asg 4 tgE, .forr [5] true (.iSeq (.var 3)) bb, .asg 6 (.dic []), .forr [7, 5] false zipI zb, .forr [7] true (.iSeq (.var 1)) wb, .ret outR] := rfl
theorem room_ok (H : Has T) (hl : l < st.length) (ok : Ok2 g) (w3 : 3 ≤ ws.length) (w1 : ws.length ≤ 10) : ∃ (r : List Th) (g' : List D), Ok2 g' ∧ RoomOk r ∧ callN T (n + 3) 7 [.loc l, .lst (ws.map D.str)] (sg st l g) = .ok (rmD r) (sg st l g') := by
  obtain ⟨ss, y1, ok1, s0, s3, x1⟩ := sheets_ev (n := n + 1) (ws := ws) H hl ok (e2 := none) (e3 := none) (e4 := none) (e5 := none) (e6 := none) (e7 := none) (e8 := none)
  obtain ⟨bs, y2, ok2, b2, x2⟩ := boxes_ev (n := n + 1) (ws := ws) H hl ok1 (e2 := some (.lst (ss.map mD))) (e3 := none) (e4 := none) (e5 := none) (e6 := none) (e7 := none) (e8 := none)
  obtain ⟨ts, y3, ok3, t3, tok, x3⟩ := things_ev (n := n) (ws := ws) H hl ok2 (ss := ss) s3 (e3 := some (.lst (bs.map mD))) (e4 := none) (e5 := none) (e6 := none) (e7 := none) (e8 := none)
  have i3 : evI (callN T (n + 2)) (.iSeq (.var 3)) (ρM l ws (some (.lst (ss.map mD))) (some (.lst (bs.map mD))) (some (.loc (st.length + 0))) none none none none) (SQ st [.lst (ts.map thD)] l y3) = .ok (bs.map mD, none) (SQ st [.lst (ts.map thD)] l y3) := by
    rw [evI, ev_var (d := .lst (bs.map mD)) rfl, R.bind_ok]
    rfl
  obtain ⟨ρ', s', f1, cs, ts', y4, e5, e6, ok4, hc, tl, tok', rfl, rfl⟩ := loopF_inv (ck := fun s => stands s (bs.map mD) none) (f := fstep (callN T (n + 2)) [5] true bb)
    (fun t ρ s => ∃ (cs : List Cell) (ts : List Th) (y : List D) (e5 e6 : Option D), Ok2 y ∧ cs[0]? = some (.lst (ts.map thD)) ∧ ts.length ≤ 3 + t ∧ (∀ p ∈ ts, p.2.Ok) ∧ ρ = ρM l ws (some (.lst (ss.map mD))) (some (.lst (bs.map mD))) (some (.loc (st.length + 0))) e5 e6 none none ∧ s = SQ st cs l y) (xs := bs.map mD) (k := 0) (ρ := ρM l ws (some (.lst (ss.map mD))) (some (.lst (bs.map mD))) (some (.loc (st.length + 0))) none none none none) (s := SQ st [.lst (ts.map thD)] l y3) (fun _ _ _ _ => trivial) (fun t d hd ρ s hp => by
      obtain ⟨cs, ts, y, e5, e6, oky, hc, tl, tok, rfl, rfl⟩ := hp
      have hlt := (List.getElem?_eq_some_iff.mp hd).1
      rw [List.length_map] at hlt
      rw [List.getElem?_map] at hd
      obtain ⟨m, _, rfl⟩ := Option.map_eq_some_iff.mp hd
      obtain ⟨cs', ts', g', e6', ok', hc', tl', tok', e⟩ := bturn (n := n) (bs := bs) H hl oky w3 (by omega) s0 s3 hc (by omega) tok (m := m) (e5 := e5) (e6 := e6) (e7 := none) (e8 := none)
      exact ⟨_, _, e, cs', ts', g', _, e6', ok', hc', by omega, tok', rfl, rfl⟩) ⟨_, ts, y3, none, none, ok3, rfl, by omega, tok, rfl, rfl⟩
  rw [List.length_map] at tl
  have x5 := dic_ev (cf := callN T (n + 2)) (ρ := ρM l ws (some (.lst (ss.map mD))) (some (.lst (bs.map mD))) (some (.loc (st.length + 0))) e5 e6 none none) (cs := cs) (g := y4) hl
  have zl : (ws.reverse.zip bs).length ≤ 2 := by rw [List.length_zip]; omega
  obtain ⟨ρ', s', f2, nm, y5, e5', e7', ok5, nk, nl, rfl, rfl⟩ := loopF_inv (ck := fun s => stands s ((ws.reverse.zip bs).map fun p => D.tup [.str p.1, mD p.2]) none) (f := fstep (callN T (n + 2)) [7, 5] false zb)
    (fun t ρ s => ∃ (nm : List SP) (y : List D) (e5 e7 : Option D), Ok2 y ∧ NmOk nm ∧ nm.length ≤ t ∧ ρ = ρM l ws (some (.lst (ss.map mD))) (some (.lst (bs.map mD))) (some (.loc (st.length + 0))) e5 (some (.loc (st.length + cs.length))) e7 none ∧ s = SQ st (cs ++ [.dk (dkS nm)]) l y) (xs := (ws.reverse.zip bs).map fun p => D.tup [.str p.1, mD p.2]) (k := 0) (ρ := ρM l ws (some (.lst (ss.map mD))) (some (.lst (bs.map mD))) (some (.loc (st.length + 0))) e5 (some (.loc (st.length + cs.length))) none none) (s := SQ st (cs ++ [.dk (dkS [])]) l y4) (fun _ _ _ _ => trivial) (fun t d hd ρ s hp => by
      obtain ⟨nm, y, e5, e7, oky, nk, nl, rfl, rfl⟩ := hp
      have hlt := (List.getElem?_eq_some_iff.mp hd).1
      rw [List.length_map] at hlt
      rw [List.getElem?_map] at hd
      obtain ⟨p, _, rfl⟩ := Option.map_eq_some_iff.mp hd
      obtain ⟨nm', g', ok', nk', nl', e⟩ := zturn (n := n) (cs := cs) (ws := ws) H hl oky nk (by omega) (p := p) (e2 := some (.lst (ss.map mD))) (e3 := some (.lst (bs.map mD))) (e4 := some (.loc (st.length + 0))) (e5 := e5) (e7 := e7) (e8 := none)
      exact ⟨_, _, e, nm', g', _, _, ok', nk', by omega, rfl, rfl⟩) ⟨[], y4, e5, none, ok4, nm_nil, Nat.le_refl _, rfl, rfl⟩
  rw [List.length_map] at nl
  have i4 : evI (callN T (n + 2)) (.iSeq (.var 1)) (ρM l ws (some (.lst (ss.map mD))) (some (.lst (bs.map mD))) (some (.loc (st.length + 0))) e5' (some (.loc (st.length + cs.length))) e7' none) (SQ st (cs ++ [.dk (dkS nm)]) l y5) = .ok (ws.map D.str, none) (SQ st (cs ++ [.dk (dkS nm)]) l y5) := by
    rw [evI, ev_var (d := .lst (ws.map D.str)) rfl, R.bind_ok]
    rfl
  obtain ⟨ρ', s', f3, nm', y6, e7'', ok6, nk', nl', rfl, rfl⟩ := loopF_inv (ck := fun s => stands s (ws.map D.str) none) (f := fstep (callN T (n + 2)) [7] true wb)
    (fun t ρ s => ∃ (nm : List SP) (y : List D) (e7 : Option D), Ok2 y ∧ NmOk nm ∧ nm.length ≤ 2 + t ∧ ρ = ρM l ws (some (.lst (ss.map mD))) (some (.lst (bs.map mD))) (some (.loc (st.length + 0))) e5' (some (.loc (st.length + cs.length))) e7 none ∧ s = SQ st (cs ++ [.dk (dkS nm)]) l y) (xs := ws.map D.str) (k := 0) (ρ := ρM l ws (some (.lst (ss.map mD))) (some (.lst (bs.map mD))) (some (.loc (st.length + 0))) e5' (some (.loc (st.length + cs.length))) e7' none) (s := SQ st (cs ++ [.dk (dkS nm)]) l y5) (fun _ _ _ _ => trivial) (fun t d hd ρ s hp => by
      obtain ⟨nm, y, e7, oky, nk, nl, rfl, rfl⟩ := hp
      have hlt := (List.getElem?_eq_some_iff.mp hd).1
      rw [List.length_map] at hlt
      rw [List.getElem?_map] at hd
      obtain ⟨w, _, rfl⟩ := Option.map_eq_some_iff.mp hd
      obtain ⟨nm', g', ok', nk', nl', e⟩ := wturn (n := n) (cs := cs) (ws := ws) H hl oky nk (by omega) (ss := ss) s0 s3 (w := w) (e3 := some (.lst (bs.map mD))) (e4 := some (.loc (st.length + 0))) (e5 := e5') (e7 := e7) (e8 := none)
      exact ⟨_, _, e, nm', g', _, ok', nk', by omega, rfl, rfl⟩) ⟨nm, y5, e7', ok5, nk, by omega, rfl, rfl⟩
  rw [List.length_map] at nl'
  have so : sortedItems (.loc (st.length + cs.length)) (SQ st (cs ++ [.dk (dkS nm')]) l y6) = .ok (.lst ((srt nm').map pD)) (SQ st (cs ++ [.dk (dkS nm')]) l y6) := by
    unfold sortedItems
    rw [dct_at (last_at hl)]
    simp only [it_dk]
    rw [if_pos (headsOk_pD nk'.o (by omega)), sortH_map]
  have c0 : 0 < cs.length := (List.getElem?_eq_some_iff.mp hc).1
  have a4 : (SQ st (cs ++ [.dk (dkS nm')]) l y6)[st.length + 0]? = some (.lst (ts'.map thD)) := by rw [sq_at hl, List.getElem?_append_left c0]; exact hc
  have x6 : ev (callN T (n + 2)) outR (ρM l ws (some (.lst (ss.map mD))) (some (.lst (bs.map mD))) (some (.loc (st.length + 0))) e5' (some (.loc (st.length + cs.length))) e7'' none) (SQ st (cs ++ [.dk (dkS nm')]) l y6) = .ok (rmD (((-1, 0), .bx ((srt nm').map pD)) :: ts')) (SQ st (cs ++ [.dk (dkS nm')]) l y6) := by
    have z1 : ev (callN T (n + 2)) (.prm .tuple true [(.sit (.var 6))]) (ρM l ws (some (.lst (ss.map mD))) (some (.lst (bs.map mD))) (some (.loc (st.length + 0))) e5' (some (.loc (st.length + cs.length))) e7'' none) (SQ st (cs ++ [.dk (dkS nm')]) l y6) = .ok (.tup ((srt nm').map pD)) (SQ st (cs ++ [.dk (dkS nm')]) l y6) := by
      rw [ev, evs, ev, ev_var (d := .loc (st.length + cs.length)) rfl, R.bind_ok, so, R.bind_ok, evs, R.bind_ok, R.bind_ok]
      rfl
    unfold outR
    rw [ev, ev_tup1 (ev_tup2 (ev_tup2 neg1 ev_cst) (ev_tup2 ev_cst z1)), R.bind_ok, tup_loc rfl a4, R.bind_ok]
    simp only [binop, look_tup']
    rw [if_pos (small_le (b := 1000) (by simp; omega) (by decide))]
    rfl
  have R' : RoomOk (((-1, 0), .bx ((srt nm').map pD)) :: ts') := ⟨by simp; omega, ⟨_, .head _, rfl⟩, fun p hp => by
    rcases List.mem_cons.mp hp with rfl | hp
    · refine mem_flats fun x hx => ?_
      obtain ⟨q, hq, rfl⟩ := List.mem_map.mp hx
      obtain ⟨m, hm⟩ := nk'.v q ((srt_p nm').mem_iff.mp hq)
      show (true && (Mi.flat q.2 && true)) = true
      rw [hm]
      rfl
    · exact tok' p hp⟩
  refine ⟨_, y6, ok6, R', backX (n := n + 2) (x := cs ++ [.dk (dkS nm')]) H.G H.h7 rfl ok6 (rm_flat R'.f) ?_⟩
  show exs (callN T (n + 2)) b7 (ρM l ws none none none none none none none) (sg st l g) = _
  rw [b7_eq, ← sq_eq hl]
  exact (asg_go x1).trans ((asg_go x2).trans ((asg_go x3).trans ((for_go i3 f1).trans ((asg_go x5).trans ((for_go (zip_ev (by omega)) f2).trans ((for_go i4 f3).trans (ret_rt x6)))))))
end
end K15
/-! K15F: what was seen, slots drawn, the law. -/
namespace K15
open PySem PySem.Spec Mi Dr Pr Gn
open Sl (SP pD valS dkS One Sn sn_non has_ok find_dk dct_at deps_le eqv_self ne_self look_flat pD_flat pD_plain pD_dep srt srt_p putS putS_one putS_mem putS_len put_dk it_dk headsOk_pD sortH_map set_box nin_box)
def mK (p : Mk) : List L2.Key := [.inl p.1, .inl p.2]
theorem mK_inj {a b : Mk} (h : mK a = mK b) : a = b := by
  unfold mK at h
  simp only [List.cons.injEq, Sum.inl.injEq, and_true] at h
  exact Prod.ext h.1 h.2
def kvR (r : List Th) : List (List L2.Key × D) := r.map fun p => (mK p.1, p.2.d)
theorem pairPT_r : ∀ r : List Th, pairPT (r.map thD) = some (kvR r)
  | [] => rfl
  | p :: r => by
    rw [List.map_cons]
    show pairPT (.tup [mD p.1, p.2.d] :: r.map thD) = _
    unfold pairPT
    rw [pairPT_r r]
    rfl
theorem pairT_r {r : List Th} (h : r ≠ []) : pairT (r.map thD) = none := by
  cases r with
  | nil => exact absurd rfl h
  | cons p r =>
    rw [List.map_cons]
    show pairT (.tup [mD p.1, p.2.d] :: r.map thD) = _
    unfold pairT
    rfl
section
variable {κ : Type} [DecidableEq κ]
theorem dput_keys {kvs : List (κ × D)} {k k' : κ} {v : D} (h : k' ∈ kvs.map (·.1) ∨ k' = k) : k' ∈ (dput kvs k v).map (·.1) := by
  unfold dput
  split
  · next e =>
    have keys : (kvs.map fun kv => if kv.1 = k then (kv.1, v) else kv).map (·.1) = kvs.map (·.1) := by
      rw [List.map_map]
      refine List.map_congr_left fun kv _ => ?_
      simp only [Function.comp]
      split <;> rfl
    rw [keys]
    rcases h with h | rfl
    · exact h
    · obtain ⟨kv, h1, h2⟩ := List.any_eq_true.mp e
      exact List.mem_map.mpr ⟨kv, h1, of_decide_eq_true h2⟩
  · rw [List.map_append]
    rcases h with h | rfl
    · exact List.mem_append_left _ h
    · exact List.mem_append_right _ (by simp)
theorem dmerge_keys : ∀ {more kvs : List (κ × D)} {k : κ}, (k ∈ kvs.map (·.1) ∨ k ∈ more.map (·.1)) → k ∈ (dmerge kvs more).map (·.1)
  | [], kvs, k, h => by
    rcases h with h | h
    · exact h
    · cases h
  | q :: more, kvs, k, h => by
    show k ∈ (dmerge (dput kvs q.1 q.2) more).map (·.1)
    refine dmerge_keys ?_
    rcases h with h | h
    · exact .inl (dput_keys (.inl h))
    · rw [List.map_cons] at h
      rcases List.mem_cons.mp h with h | h
      · exact .inl (dput_keys (.inr h))
      · exact .inr h
theorem dmerge_mem : ∀ {more kvs : List (κ × D)} {p : κ × D}, p ∈ dmerge kvs more → p ∈ kvs ∨ p ∈ more
  | [], kvs, p, h => .inl h
  | q :: more, kvs, p, h => by
    have h : p ∈ dmerge (dput kvs q.1 q.2) more := h
    rcases dmerge_mem h with h | h
    · rcases Sl.dput_mem h with h | h
      · exact .inl h
      · exact .inr (by rw [h]; exact .head _)
    · exact .inr (.tail _ h)
theorem dval_key {kvs : List (κ × D)} {k : κ} (h : k ∈ kvs.map (·.1)) : ∃ d, dval kvs k = some d ∧ (k, d) ∈ kvs := by
  unfold dval
  cases e : kvs.find? fun kv => decide (kv.1 = k) with
  | none =>
    obtain ⟨kv, h1, h2⟩ := List.mem_map.mp h
    have := List.find?_eq_none.mp e kv h1
    simp [h2] at this
  | some kv =>
    have h1 := List.mem_of_find?_eq_some e
    have h2 := List.find?_some e
    simp at h2
    exact ⟨kv.2, rfl, by rw [← h2]; exact h1⟩
end
theorem in_room {r : List Th} {m : Mk} (h : m ∈ r.map (·.1)) : ∃ c : Ct, dval (dmerge [] (kvR r)) (mK m) = some c.d ∧ (m, c) ∈ r := by
  obtain ⟨d, h1, h2⟩ := dval_key (kvs := dmerge [] (kvR r)) (k := mK m) (dmerge_keys (.inr (by
    obtain ⟨p, hp, rfl⟩ := List.mem_map.mp h
    exact List.mem_map.mpr ⟨(mK p.1, p.2.d), List.mem_map.mpr ⟨p, hp, rfl⟩, rfl⟩)))
  rcases dmerge_mem h2 with h2 | h2
  · cases h2
  · obtain ⟨p, hp, e⟩ := List.mem_map.mp h2
    have e1 := congrArg Prod.fst e
    have e2 := congrArg Prod.snd e
    have e3 := mK_inj e1
    exact ⟨p.2, by rw [h1]; exact congrArg some e2.symm, by rw [← e3]; exact hp⟩
def kd (c : Ct) : Str := if isBx c then "box" else "sheet"
theorem kd_box (c : Ct) : (kd c == ("box" : Str)) = isBx c := by
  cases c with
  | sh v => show (("sheet" : Str) == ("box" : Str)) = false; decide +kernel
  | bx ds => show (("box" : Str) == ("box" : Str)) = true; decide +kernel
theorem ct_ix0 (c : Ct) {s : Store} : index c.d (.int 0) s = .ok (.str (kd c)) s := by cases c <;> exact ix0
def oM : Option Mk → D
  | none => .non
  | some m => mD m
theorem oM_flat (o : Option Mk) : Mi.flat (oM o) = true := by cases o <;> rfl
theorem oM_fl (o : Option Mk) : Fl (oM o) := by cases o with | none => exact fl_non | some m => exact fl_pair
section
variable {T : List Fn} {n : Nat} {st : Store} {l : Nat} {g : List D} {ws : List Str} {r : List Th}
theorem ne_mk (a b : Mk) {s : Store} : compop .ne (mD a) (mD b) s = .ok (.bl (!eqv (mD a) (mD b))) s := rfl
theorem ev_tup5 {cf : Nat → List D → Store → Mi.R D} {ρ : Mi.Env} {s s1 s2 s3 s4 s5 : Store} {a b c d e : E} {x1 x2 x3 x4 x5 : D} (h1 : ev cf a ρ s = .ok x1 s1) (h2 : ev cf b ρ s1 = .ok x2 s2) (h3 : ev cf c ρ s2 = .ok x3 s3) (h4 : ev cf d ρ s3 = .ok x4 s4) (h5 : ev cf e ρ s4 = .ok x5 s5) : ev cf (.tup [a, b, c, d, e]) ρ s = .ok (.tup [x1, x2, x3, x4, x5]) s5 := by
  rw [ev, evs, h1, R.bind_ok, evs, h2, R.bind_ok, evs, h3, R.bind_ok, evs, h4, R.bind_ok, evs, h5, R.bind_ok, evs, R.bind_ok, R.bind_ok, R.bind_ok, R.bind_ok, R.bind_ok, R.bind_ok, if_pos (small_le (b := 1000) (by show 5 ≤ 1000; decide) (by decide))]
def cB : E := .cmp .eq (.idx (.var 8) (.cst (.int 0))) (.cst (.str "box"))
def cN : E := .cmp .ne (.var 7) (.tup [(.neg (.cst (.int 1))), (.cst (.int 0))])
theorem comp_room {cf : Nat → List D → Store → Mi.R D} {s : Store} {c : E} (q : Th → Bool) (hr : RoomOk r) {e0 e2 e3 e4 e5 e6 e7 e8 e9 : Option D} (hc : ∀ p ∈ r, asBool (ev cf c [e0, some (rmD r), e2, e3, e4, e5, e6, some (mD p.1), some p.2.d, e9] s) = .ok (q p) s) : ev cf (.comp true [7, 8] [7, 8] false (.iSeq (.var 1)) [c] (.var 7)) [e0, some (rmD r), e2, e3, e4, e5, e6, e7, e8, e9] s = .ok (.lst (((r.filter q).map (·.1)).map mD)) s := by
  have i1 : evI cf (.iSeq (.var 1)) [e0, some (rmD r), e2, e3, e4, e5, e6, e7, e8, e9] s = .ok (r.map thD, none) s := by
    rw [evI, ev_var (d := rmD r) rfl, R.bind_ok]
    rfl
  rw [ev_comp, i1, R.bind_ok]
  have lc := loopC_flt (ck := fun s => stands s (r.map thD) none) (f := cstep cf [7, 8] [7, 8] false [c] (.var 7) [e0, some (rmD r), e2, e3, e4, e5, e6, e7, e8, e9]) (s := s) trivial thD q (fun p => mD p.1) (xs := r) fun p hp => by
    unfold cstep thD
    simp only [bindT, Bool.false_eq_true, if_false, look_tup', put, Mi.wipe, List.set_cons_zero, List.set_cons_succ, evc, hc p hp, R.bind_ok]
    cases q p with
    | true =>
      simp only [if_true, R.calm_ok, R.bind_ok]
      rw [ev_var (d := mD p.1) rfl, R.calm_ok, R.bind_ok]
    | false => rfl
  rw [lc, R.bind_ok, List.map_map]
  refine made_old' ?_
  have := List.length_filter_le q r
  have := hr.l
  rw [List.length_map]
  omega
theorem b8_eq : b8 = [.asg 3 (.call true 4 [(.var 0), (.lst true [(.cst (.str "seen")), (.cst (.str "held"))])] []), .asg 4 (.comp true [7, 8] [7, 8] false (.iSeq (.var 1)) [cB] (.var 7)), .asg 5 (.comp true [7, 8] [7, 8] false (.iSeq (.var 1)) [cN] (.var 7)), .asg 6 (.call true 4 [(.var 0), (.var 2)] []), .iff (.cmp .eq (.call true 3 [(.var 0), (.cst (.int 5))] []) (.cst (.int 0))) [.ret (.tup [(.var 3), (.cst .non), (.var 6), (.cst .non), (.cst .non)])] [], .asg 7 (.call true 4 [(.var 0), (.bin .add true (.lst true [(.cst .non)]) (.var 5))] []), .asg 8 (.mth .get true (.prm .dict true [(.var 1)]) [(.var 7)]), .iff (.and (.cmp .isn (.var 7) (.cst .non)) cB) [.ret (.tup [(.var 3), (.tup [(.neg (.cst (.int 1))), (.cst (.int 0))]), (.var 6), (.var 7), (.cst .non)])] [], .asg 9 (.cst .non), .iff (.cmp .isn (.var 7) (.cst .non)) [.asg 9 (.call true 4 [(.var 0), (.lst true [(.idx (.var 8) (.cst (.int 1))), (.idx (.var 8) (.cst (.int 1))), (.cst (.int 0)), (.cst (.int 5)), (.cst (.int 998))])] [])] [], .ret (.tup [(.var 3), (.call true 4 [(.var 0), (.var 4)] []), (.var 6), (.var 7), (.var 9)])] := rfl
abbrev SR (st : Store) (r : List Th) (l : Nat) (g : List D) : Store := SQ st [.dt (dmerge [] (kvR r))] l g
abbrev ρS (l : Nat) (r : List Th) (ws : List Str) (e3 e4 e5 e6 e7 e8 e9 : Option D) : Mi.Env := [some (.loc l), some (rmD r), some (.lst (ws.map D.str)), e3, e4, e5, e6, e7, e8, e9]
theorem get_ev (hl : l < st.length) (hr : RoomOk r) {o : Option Mk} (ho : ∀ m, o = some m → m ∈ r.map (·.1)) {e3 e4 e5 e6 e8 e9 : Option D} : ∃ c8 : D, (∀ m, o = some m → ∃ c : Ct, c8 = c.d) ∧ ev (callN T (n + 2)) (.mth .get true (.prm .dict true [(.var 1)]) [(.var 7)]) (ρS l r ws e3 e4 e5 e6 (some (oM o)) e8 e9) (sg st l g) = .ok c8 (SR st r l g) := by
  have rn : r ≠ [] := fun e => by obtain ⟨p, hp, _⟩ := hr.b; rw [e] at hp; cases hp
  have hll := hr.l
  have r0 : 0 < r.length := List.length_pos_iff.mpr rn
  have x1 : ev (callN T (n + 2)) (.prm .dict true [(.var 1)]) (ρS l r ws e3 e4 e5 e6 (some (oM o)) e8 e9) (sg st l g) = .ok (.loc (st.length + 0)) (SR st r l g) := by
    have e : SR st r l g = sg st l g ++ [.dt (dmerge [] (kvR r))] := sq_eq hl
    have e2 : st.length + 0 = (sg st l g).length := by rw [sg_len]; rfl
    have kl : (kvR r).length = r.length := List.length_map _
    simp only [ρS, ev, evs, List.getElem?_cons_zero, List.getElem?_cons_succ, R.bind_ok, prim, rmD, look_tup', pairT_r rn, pairPT_r]
    rw [if_pos ⟨by rw [kl]; omega, by rw [kl]; omega⟩, e, e2]
  have at0 : (SR st r l g)[st.length + 0]? = some (.dt (dmerge [] (kvR r))) := sq_at hl
  have d1 : dctAt (SR st r l g) (.loc (st.length + 0)) = none := by simp only [dctAt, at0]
  have d2 : dttAt (SR st r l g) (.loc (st.length + 0)) = some (st.length + 0, dmerge [] (kvR r)) := by simp only [dttAt, at0]
  have rc : recv .get (.loc (st.length + 0)) (SR st r l g) = true := by
    show ((dctAt (SR st r l g) (.loc (st.length + 0))).isSome || (dttAt (SR st r l g) (.loc (st.length + 0))).isSome) = true
    rw [d1, d2]
    rfl
  have go : ∀ c8, meth .get true (.loc (st.length + 0)) [oM o] (SR st r l g) = .ok c8 (SR st r l g) → ev (callN T (n + 2)) (.mth .get true (.prm .dict true [(.var 1)]) [(.var 7)]) (ρS l r ws e3 e4 e5 e6 (some (oM o)) e8 e9) (sg st l g) = .ok c8 (SR st r l g) := fun c8 h => by
    rw [ev, x1, R.bind_ok, if_pos rc, evs, ev_var (d := oM o) rfl, R.bind_ok, evs, R.bind_ok, R.bind_ok, h]
  cases o with
  | none =>
    refine ⟨.non, (fun m h => by cases h), go _ ?_⟩
    unfold meth mGet
    rw [d1, d2]
    rfl
  | some m =>
    obtain ⟨c, h1, _⟩ := in_room (ho m rfl)
    refine ⟨c.d, fun _ _ => ⟨c, rfl⟩, go _ ?_⟩
    unfold meth mGet
    rw [d1, d2]
    have pk : pkD (mD m) = some (mK m) := rfl
    simp only [oM]
    show (match pkD (mD m) with | some x => R.ok ((dval (dmerge [] (kvR r)) x).getD .non) (SR st r l g) | none => .fault) = _
    rw [pk]
    simp only [h1, Option.getD_some]
theorem seen_ok (H : Has T) (hl : l < st.length) (ok : Ok2 g) (hr : RoomOk r) (w3 : 3 ≤ ws.length) (w1 : ws.length ≤ 10) : ∃ (v : D) (g' : List D), Ok2 g' ∧ Sv v ∧ callN T (n + 3) 8 [.loc l, rmD r, .lst (ws.map D.str)] (sg st l g) = .ok v (sg st l g') := by
  have hll := hr.l
  obtain ⟨way, y1, ok1, _, x1⟩ := pk_w (n := n) (g := g) (ws := ["seen", "held"]) H.G H.h4 hl (ρ := ρS l r ws none none none none none none none) rfl ok (ev_lst2 ev_cst ev_cst) (by decide) (by decide)
  have x2 := comp_room (cf := callN T (n + 2)) (s := sg st l y1) (c := cB) (fun p : Th => isBx p.2) hr (e0 := some (.loc l)) (e2 := some (.lst (ws.map D.str))) (e3 := some (.str way)) (e4 := none) (e5 := none) (e6 := none) (e7 := none) (e8 := none) (e9 := none) (fun p _ => by
    unfold cB
    rw [ev, ev, ev_var (d := p.2.d) rfl, R.bind_ok, ev_cst, R.bind_ok, ct_ix0, R.bind_ok, ev_cst, R.bind_ok, eq_str, kd_box, asBool_ok])
  obtain ⟨bp, hbp, hbx⟩ := hr.b
  have bl : 0 < ((r.filter fun p : Th => isBx p.2).map (·.1)).length := by
    rw [List.length_map]
    exact List.length_pos_of_mem (List.mem_filter.mpr ⟨hbp, hbx⟩)
  have bl2 : ((r.filter fun p : Th => isBx p.2).map (·.1)).length ≤ 10 := by
    have := List.length_filter_le (fun p : Th => isBx p.2) r
    rw [List.length_map]
    omega
  generalize (r.filter fun p : Th => isBx p.2).map (·.1) = bs at x2 bl bl2
  have x3 := comp_room (cf := callN T (n + 2)) (s := sg st l y1) (c := cN) (fun p : Th => !eqv (mD p.1) (mD (-1, 0))) hr (e0 := some (.loc l)) (e2 := some (.lst (ws.map D.str))) (e3 := some (.str way)) (e4 := some (.lst (bs.map mD))) (e5 := none) (e6 := none) (e7 := none) (e8 := none) (e9 := none) (fun p _ => by
    unfold cN
    rw [ev, ev_var (d := mD p.1) rfl, R.bind_ok, ev_tup2 neg1 ev_cst, R.bind_ok, show compop .ne (mD p.1) (.tup [.int (-1), .int 0]) (sg st l y1) = _ from ne_mk p.1 (-1, 0), asBool_ok])
  have mm : ∀ m ∈ (r.filter fun p : Th => !eqv (mD p.1) (mD (-1, 0))).map (·.1), m ∈ r.map (·.1) := fun m hm => by
    obtain ⟨p, hp, rfl⟩ := List.mem_map.mp hm
    exact List.mem_map.mpr ⟨p, (List.mem_filter.mp hp).1, rfl⟩
  have ml : ((r.filter fun p : Th => !eqv (mD p.1) (mD (-1, 0))).map (·.1)).length ≤ 10 := by
    have := List.length_filter_le (fun p : Th => !eqv (mD p.1) (mD (-1, 0))) r
    rw [List.length_map]
    omega
  generalize (r.filter fun p : Th => !eqv (mD p.1) (mD (-1, 0))).map (·.1) = ms at x3 mm ml
  obtain ⟨w, y2, ok2, _, x4⟩ := pk_w (n := n) (g := y1) (ws := ws) H.G H.h4 hl (ρ := ρS l r ws (some (.str way)) (some (.lst (bs.map mD))) (some (.lst (ms.map mD))) none none none none) rfl ok1 (e := .var 2) (ev_var rfl) (by omega) (by omega)
  obtain ⟨k5, y3, ok3, _, _, x5⟩ := ev_nx (n := n + 1) (g := y2) H.G hl (ρ := ρS l r ws (some (.str way)) (some (.lst (bs.map mD))) (some (.lst (ms.map mD))) (some (.str w)) none none none) rfl ok2 (k := 5) (by decide) (by decide)
  have c5 : asBool (ev (callN T (n + 2)) (.cmp .eq (.call true 3 [(.var 0), (.cst (.int 5))] []) (.cst (.int 0))) (ρS l r ws (some (.str way)) (some (.lst (bs.map mD))) (some (.lst (ms.map mD))) (some (.str w)) none none none) (sg st l y2)) = .ok (k5 == 0) (sg st l y3) := eq_k x5
  cases e5 : (k5 == 0) with
  | true =>
    rw [e5] at c5
    have S : Sv (.tup [.str way, .non, .str w, .non, .non]) := ⟨way, w, .non, .non, .non, rfl, fl_non, fl_non, fl_non⟩
    refine ⟨_, y3, ok3, S, back (n := n + 2) H.G H.h8 rfl ok3 S.sn.f ?_⟩
    show exs (callN T (n + 2)) b8 (ρS l r ws none none none none none none none) (sg st l g) = _
    rw [b8_eq]
    exact (asg_go x1).trans ((asg_go x2).trans ((asg_go x3).trans ((asg_go x4).trans (iff_rt c5 (ret_rt (ev_tup5 (ev_var rfl) ev_cst (ev_var rfl) ev_cst ev_cst))))))
  | false =>
    rw [e5] at c5
    have x6 : ev (callN T (n + 2)) (.bin .add true (.lst true [(.cst .non)]) (.var 5)) (ρS l r ws (some (.str way)) (some (.lst (bs.map mD))) (some (.lst (ms.map mD))) (some (.str w)) none none none) (sg st l y3) = .ok (.lst ((none :: ms.map some).map oM)) (sg st l y3) := by
      have z : ev (callN T (n + 2)) (.lst true [(.cst .non)]) (ρS l r ws (some (.str way)) (some (.lst (bs.map mD))) (some (.lst (ms.map mD))) (some (.str w)) none none none) (sg st l y3) = .ok (.lst [.non]) (sg st l y3) := by
        rw [ev, evs, ev_cst, R.bind_ok, evs, R.bind_ok, R.bind_ok]
        exact made_old' (by show 1 ≤ 1000; decide)
      have := ev_add z (ev_var (i := 5) (d := .lst (ms.map mD)) rfl) (by simp; omega)
      rw [this]
      congr 2
      simp only [List.map_cons, List.map_map]
      rfl
    obtain ⟨o, y4, ok4, ho, x7⟩ := pk_in (n := n) (g := y3) H hl (ρ := ρS l r ws (some (.str way)) (some (.lst (bs.map mD))) (some (.lst (ms.map mD))) (some (.str w)) none none none) rfl ok3 x6 (by simp) (by simp; omega) (fun a _ => oM_flat a)
    have ho' : ∀ m, o = some m → m ∈ r.map (·.1) := fun m e => by
      subst e
      simp at ho
      exact mm m ho
    obtain ⟨c8, hc8, x8⟩ := get_ev (T := T) (n := n) (g := y4) (ws := ws) hl hr ho' (e3 := some (.str way)) (e4 := some (.lst (bs.map mD))) (e5 := some (.lst (ms.map mD))) (e6 := some (.str w)) (e8 := none) (e9 := none)
    have hl2 : l < (st ++ [Cell.dt (dmerge [] (kvR r))]).length := by rw [List.length_append]; omega
    have pre : ∀ {F : F}, exs (callN T (n + 2)) (b8.drop 7) (ρS l r ws (some (.str way)) (some (.lst (bs.map mD))) (some (.lst (ms.map mD))) (some (.str w)) (some (oM o)) (some c8) none) (SR st r l y4) = F → exs (callN T (n + 2)) b8 (ρS l r ws none none none none none none none) (sg st l g) = F := fun {F} e => by
      rw [b8_eq]
      exact (asg_go x1).trans ((asg_go x2).trans ((asg_go x3).trans ((asg_go x4).trans ((iff_no c5).trans ((asg_go x7).trans ((asg_go x8).trans e))))))
    have isn : ∀ {e9 : Option D} {s : Store}, ev (callN T (n + 2)) (.cmp .isn (.var 7) (.cst .non)) (ρS l r ws (some (.str way)) (some (.lst (bs.map mD))) (some (.lst (ms.map mD))) (some (.str w)) (some (oM o)) (some c8) e9) s = .ok (.bl o.isSome) s := fun {e9 s} => by
      rw [ev, ev_var (d := oM o) rfl, R.bind_ok, ev_cst, R.bind_ok]
      cases o <;> rfl
    have finX : ∀ {v : D} {y : List D}, Ok2 y → Sv v → exs (callN T (n + 2)) b8 (ρS l r ws none none none none none none none) (sg st l g) = .rt v (SR st r l y) → ∃ (v : D) (g' : List D), Ok2 g' ∧ Sv v ∧ callN T (n + 3) 8 [.loc l, rmD r, .lst (ws.map D.str)] (sg st l g) = .ok v (sg st l g') := fun {v y} oky S e =>
      ⟨v, y, oky, S, backX (n := n + 2) (x := [.dt (dmerge [] (kvR r))]) H.G H.h8 rfl oky S.sn.f (e.trans (by rw [← sq_eq hl]))⟩
    cases o with
    | none =>
      have c9 : asBool (ev (callN T (n + 2)) (.and (.cmp .isn (.var 7) (.cst .non)) cB) (ρS l r ws (some (.str way)) (some (.lst (bs.map mD))) (some (.lst (ms.map mD))) (some (.str w)) (some (oM none)) (some c8) none) (SR st r l y4)) = .ok false (SR st r l y4) := by
        rw [ev, isn, R.bind_ok]
        rfl
      have c10 : asBool (ev (callN T (n + 2)) (.cmp .isn (.var 7) (.cst .non)) (ρS l r ws (some (.str way)) (some (.lst (bs.map mD))) (some (.lst (ms.map mD))) (some (.str w)) (some (oM none)) (some c8) (some .non)) (SR st r l y4)) = .ok false (SR st r l y4) := by
        rw [isn]
        rfl
      obtain ⟨b, y5, ok5, _, x9⟩ := pk_in (n := n) (st := st ++ [.dt (dmerge [] (kvR r))]) (g := y4) H hl2 (ρ := ρS l r ws (some (.str way)) (some (.lst (bs.map mD))) (some (.lst (ms.map mD))) (some (.str w)) (some (oM none)) (some c8) (some .non)) rfl ok4 (e := .var 4) (enc := mD) (xs := bs) (ev_var rfl) bl (by omega) (fun _ _ => rfl)
      exact finX ok5 ⟨way, w, mD b, .non, .non, rfl, fl_pair, fl_non, fl_non⟩ (pre ((iff_no c9).trans ((asg_go ev_cst).trans ((iff_no c10).trans (ret_rt (ev_tup5 (ev_var rfl) x9 (ev_var rfl) (ev_var rfl) (ev_var rfl)))))))
    | some m =>
      obtain ⟨c, rfl⟩ := hc8 m rfl
      have c9 : asBool (ev (callN T (n + 2)) (.and (.cmp .isn (.var 7) (.cst .non)) cB) (ρS l r ws (some (.str way)) (some (.lst (bs.map mD))) (some (.lst (ms.map mD))) (some (.str w)) (some (oM (some m))) (some c.d) none) (SR st r l y4)) = .ok (isBx c) (SR st r l y4) := by
        rw [ev, isn, R.bind_ok]
        simp only [Option.isSome_some, truth_bl]
        unfold cB
        rw [ev, ev, ev_var (d := c.d) rfl, R.bind_ok, ev_cst, R.bind_ok, ct_ix0, R.bind_ok, ev_cst, R.bind_ok, eq_str, kd_box, asBool_ok]
      cases c with
      | bx ds =>
        exact finX ok4 ⟨way, w, .tup [.int (-1), .int 0], mD m, .non, rfl, fl_pair, fl_pair, fl_non⟩ (pre (iff_rt c9 (ret_rt (ev_tup5 (ev_var rfl) (ev_tup2 neg1 ev_cst) (ev_var rfl) (ev_var rfl) ev_cst))))
      | sh v =>
        have c10 : asBool (ev (callN T (n + 2)) (.cmp .isn (.var 7) (.cst .non)) (ρS l r ws (some (.str way)) (some (.lst (bs.map mD))) (some (.lst (ms.map mD))) (some (.str w)) (some (oM (some m))) (some (Ct.sh v).d) (some .non)) (SR st r l y4)) = .ok true (SR st r l y4) := by
          rw [isn]
          rfl
        have x9 : ev (callN T (n + 2)) (.lst true [(.idx (.var 8) (.cst (.int 1))), (.idx (.var 8) (.cst (.int 1))), (.cst (.int 0)), (.cst (.int 5)), (.cst (.int 998))]) (ρS l r ws (some (.str way)) (some (.lst (bs.map mD))) (some (.lst (ms.map mD))) (some (.str w)) (some (oM (some m))) (some (Ct.sh v).d) (some .non)) (SR st r l y4) = .ok (.lst (([v, v, 0, 5, 998] : List Int).map D.int)) (SR st r l y4) := by
          have z : ev (callN T (n + 2)) (.idx (.var 8) (.cst (.int 1))) (ρS l r ws (some (.str way)) (some (.lst (bs.map mD))) (some (.lst (ms.map mD))) (some (.str w)) (some (oM (some m))) (some (Ct.sh v).d) (some .non)) (SR st r l y4) = .ok (.int v) (SR st r l y4) := by
            rw [ev, ev_var (d := (Ct.sh v).d) rfl, R.bind_ok, ev_cst, R.bind_ok]
            exact ix1
          rw [ev, evs, z, R.bind_ok, evs, z, R.bind_ok, evs, ev_cst, R.bind_ok, evs, ev_cst, R.bind_ok, evs, ev_cst, R.bind_ok, evs, R.bind_ok, R.bind_ok, R.bind_ok, R.bind_ok, R.bind_ok, R.bind_ok]
          exact made_old' (by show 5 ≤ 1000; decide)
        obtain ⟨i, y5, ok5, _, x10⟩ := pk_in (n := n) (st := st ++ [.dt (dmerge [] (kvR r))]) (g := y4) H hl2 (ρ := ρS l r ws (some (.str way)) (some (.lst (bs.map mD))) (some (.lst (ms.map mD))) (some (.str w)) (some (oM (some m))) (some (Ct.sh v).d) (some .non)) rfl ok4 (enc := D.int) x9 (by simp) (by simp) (fun _ _ => rfl)
        obtain ⟨b, y6, ok6, _, x11⟩ := pk_in (n := n) (st := st ++ [.dt (dmerge [] (kvR r))]) (g := y5) H hl2 (ρ := ρS l r ws (some (.str way)) (some (.lst (bs.map mD))) (some (.lst (ms.map mD))) (some (.str w)) (some (oM (some m))) (some (Ct.sh v).d) (some (.int i))) rfl ok5 (e := .var 4) (enc := mD) (xs := bs) (ev_var rfl) bl (by omega) (fun _ _ => rfl)
        exact finX ok6 ⟨way, w, mD b, mD m, .int i, rfl, fl_pair, fl_pair, fl_int⟩ (pre ((iff_no c9).trans ((asg_go ev_cst).trans ((iff_go c10 ((asg_go x10).trans exs_nil)).trans (ret_rt (ev_tup5 (ev_var rfl) x11 (ev_var rfl) (ev_var rfl) (ev_var rfl)))))))
end
end K15
/-! K15G: slots drawn, the law. -/
namespace K15
open PySem PySem.Spec Mi Dr Pr Gn
open Sl (SP pD valS dkS One Sn sn_non has_ok find_dk dct_at deps_le eqv_self ne_self look_flat pD_flat pD_plain pD_dep srt srt_p putS putS_one putS_mem putS_len put_dk it_dk headsOk_pD sortH_map set_box nin_box)
structure PsOk (ps : List SP) : Prop where
  o : One ps
  v : ∀ p ∈ ps, Sv p.2
theorem ps_nil : PsOk [] := ⟨List.nodup_nil, fun _ h => by cases h⟩
theorem PsOk.put {ps : List SP} (h : PsOk ps) (w : Str) {v : D} (hv : Sv v) : PsOk (putS ps w v) := ⟨putS_one h.o _ _, fun p hp => by
  rcases putS_mem hp with hp | rfl
  · exact h.v p hp
  · exact hv⟩
section
variable {T : List Fn} {n : Nat} {st : Store} {l : Nat} {g : List D} {ws : List Str} {r : List Th} {ps : List SP}
abbrev ρT (l : Nat) (r : List Th) (ws : List Str) (e3 e4 e5 : Option D) : Mi.Env := [some (.loc l), some (rmD r), some (.lst (ws.map D.str)), e3, e4, e5]
abbrev SP1 (st : Store) (ps : List SP) (l : Nat) (g : List D) : Store := SQ st ([] ++ [.dk (dkS ps)]) l g
def sb : List S := [.iff (.cmp .gt (.call true 3 [(.var 0), (.cst (.int 4))] []) (.cst (.int 0))) [.seti (.var 3) (.var 4) (.call true 8 [(.var 0), (.var 1), (.var 2)] [])] []]
theorem sturn (H : Has T) (hl : l < st.length) (ok : Ok2 g) (hr : RoomOk r) (w3 : 3 ≤ ws.length) (w1 : ws.length ≤ 10) (hp : PsOk ps) (pl : ps.length ≤ 20) {w : Str} {e4 e5 : Option D} : ∃ (ps' : List SP) (g' : List D), Ok2 g' ∧ PsOk ps' ∧ ps'.length ≤ ps.length + 1 ∧
    fstep (callN T (n + 3)) [4] true sb (.str w) (ρT l r ws (some (.loc (st.length + ([] : List Cell).length))) e4 e5) (SP1 st ps l g) = .nx (ρT l r ws (some (.loc (st.length + ([] : List Cell).length))) (some (.str w)) e5) (SP1 st ps' l g') := by
  have hl2 : l < (st ++ ([] ++ [Cell.dk (dkS ps)])).length := by rw [List.length_append]; omega
  unfold fstep ρT
  simp only [bindT, if_true, put, List.set_cons_zero, List.set_cons_succ]
  obtain ⟨k, y1, ok1, _, _, x1⟩ := ev_nx (n := n + 2) (st := st ++ ([] ++ [.dk (dkS ps)])) (g := g) H.G hl2 (ρ := [some (.loc l), some (rmD r), some (.lst (ws.map D.str)), some (.loc (st.length + ([] : List Cell).length)), some (.str w), e5]) rfl ok (k := 4) (by decide) (by decide)
  have c : asBool (ev (callN T (n + 3)) (.cmp .gt (.call true 3 [(.var 0), (.cst (.int 4))] []) (.cst (.int 0))) [some (.loc l), some (rmD r), some (.lst (ws.map D.str)), some (.loc (st.length + ([] : List Cell).length)), some (.str w), e5] (SP1 st ps l g)) = .ok (decide (0 < k)) (SP1 st ps l y1) := gt_k x1
  unfold sb
  cases e : decide (0 < k) with
  | false =>
    rw [e] at c
    exact ⟨ps, y1, ok1, hp, by omega, (iff_no c).trans exs_nil⟩
  | true =>
    rw [e] at c
    obtain ⟨v, y2, ok2, hv, x2⟩ := seen_ok (n := n) (st := st ++ ([] ++ [.dk (dkS ps)])) (g := y1) H hl2 ok1 hr w3 w1
    have x3 : ev (callN T (n + 3)) (.call true 8 [(.var 0), (.var 1), (.var 2)] []) [some (.loc l), some (rmD r), some (.lst (ws.map D.str)), some (.loc (st.length + ([] : List Cell).length)), some (.str w), e5] (SP1 st ps l y1) = .ok v (SP1 st ps l y2) := by
      have x2 : callN T (n + 3) 8 [.loc l, rmD r, .lst (ws.map D.str)] (SP1 st ps l y1) = .ok v (SP1 st ps l y2) := x2
      simp only [ev, evs, List.getElem?_cons_zero, List.getElem?_cons_succ, R.bind_ok, List.append_nil, if_true, x2]
      exact frz_flat' hv.sn.f
    exact ⟨putS ps w v, y2, ok2, hp.put w hv, putS_len _ _, (iff_go c ((ex_go (put_ex hl (by omega) x3 rfl rfl)).trans exs_nil)).trans exs_nil⟩
theorem idx_dk' {s : Store} {L : Nat} {k : Str} {v : D} (hd : s[L]? = some (.dk (dkS ps))) (h : valS ps k = some v) : index (.loc L) (.str k) s = .ok v s := by
  have e1 : look s (.loc L) = .loc L := by simp only [look, hd]
  simp only [index, e1, dct_at hd, keyD, find_dk, h]
theorem val_of (o : One ps) {k : Str} (h : k ∈ ps.map (·.1)) : ∃ v, valS ps k = some v ∧ (k, v) ∈ ps := by
  obtain ⟨p, hp, rfl⟩ := List.mem_map.mp h
  exact ⟨p.2, (Sl.valS_mem o).mpr hp, hp⟩
def nwv : E := .bin .add true (.tup [(.call true 4 [(.var 0), (.lst true [(.cst (.str "seen")), (.cst (.str "held"))])] [])]) (.slc true (.idx (.var 3) (.idx (.var 5) (.cst (.int 0)))) [(.cst (.int 1))] [])
def lastS : S := .iff (.and (.cmp .gt (.prm .len true [(.var 5)]) (.cst (.int 1))) (.cmp .eq (.call true 3 [(.var 0), (.cst (.int 3))] []) (.cst (.int 0)))) [.seti (.var 3) (.idx (.var 5) (.cst (.int 1))) nwv] []
theorem last_ex (H : Has T) (hl : l < st.length) (ok : Ok2 g) (hp : PsOk ps) (pl : ps.length ≤ 20) {ks : List Str} (hk : (ks.map D.str).Perm ((ps.map (·.1)).map D.str)) {e4 : Option D} : ∃ (ps' : List SP) (g' : List D), Ok2 g' ∧ PsOk ps' ∧ ps'.length ≤ ps.length + 1 ∧
    ex (callN T (n + 2)) lastS (ρT l r ws (some (.loc (st.length + ([] : List Cell).length))) e4 (some (.lst (ks.map D.str)))) (SP1 st ps l g) = .nx (ρT l r ws (some (.loc (st.length + ([] : List Cell).length))) e4 (some (.lst (ks.map D.str)))) (SP1 st ps' l g') := by
  have hl2 : l < (st ++ ([] ++ [Cell.dk (dkS ps)])).length := by rw [List.length_append]; omega
  have c : ∃ (b : Bool) (y1 : List D), Ok2 y1 ∧ (b = true → 1 < ks.length) ∧ asBool (ev (callN T (n + 2)) (.and (.cmp .gt (.prm .len true [(.var 5)]) (.cst (.int 1))) (.cmp .eq (.call true 3 [(.var 0), (.cst (.int 3))] []) (.cst (.int 0)))) (ρT l r ws (some (.loc (st.length + ([] : List Cell).length))) e4 (some (.lst (ks.map D.str)))) (SP1 st ps l g)) = .ok b (SP1 st ps l y1) := by
    have z : ev (callN T (n + 2)) (.cmp .gt (.prm .len true [(.var 5)]) (.cst (.int 1))) (ρT l r ws (some (.loc (st.length + ([] : List Cell).length))) e4 (some (.lst (ks.map D.str)))) (SP1 st ps l g) = .ok (.bl (decide ((1 : Int) < (ks.length : Int)))) (SP1 st ps l g) := by
      simp only [ev, evs, ρT, List.getElem?_cons_zero, List.getElem?_cons_succ, R.bind_ok, len_l look_lst', List.length_map, gt_int]
    rw [ev, z, R.bind_ok]
    cases e : decide ((1 : Int) < (ks.length : Int)) with
    | false => exact ⟨false, g, ok, (fun h => by cases h), rfl⟩
    | true =>
      simp only [truth_bl]
      obtain ⟨k, y1, ok1, _, _, x1⟩ := ev_nx (n := n + 1) (st := st ++ ([] ++ [.dk (dkS ps)])) (g := g) H.G hl2 (ρ := ρT l r ws (some (.loc (st.length + ([] : List Cell).length))) e4 (some (.lst (ks.map D.str)))) rfl ok (k := 3) (by decide) (by decide)
      exact ⟨_, y1, ok1, (fun _ => by have := of_decide_eq_true e; omega), eq_k x1⟩
  obtain ⟨b, y1, ok1, hb, c⟩ := c
  unfold lastS
  rw [ex, c, R.toF_ok]
  cases b with
  | false => exact ⟨ps, y1, ok1, hp, by omega, by rw [if_neg Bool.false_ne_true, exs_nil]⟩
  | true =>
    have hlen := hb rfl
    match ks, hk, hlen, c with
    | k0 :: k1 :: kr, hk, _, c =>
      have m0 : k0 ∈ ps.map (·.1) := by
        have := hk.mem_iff.mp (List.Mem.head _ : D.str k0 ∈ _)
        obtain ⟨z, hz, e⟩ := List.mem_map.mp this
        cases e
        exact hz
      obtain ⟨v, hv, hm⟩ := val_of hp.o m0
      obtain ⟨w0, z0, b0, x0, q0, e0, f1, f2, f3⟩ := hp.v _ hm
      have e0 : v = sv w0 b0 z0 x0 q0 := e0
      obtain ⟨way, y2, ok2, _, x2⟩ := pk_w (n := n) (st := st ++ ([] ++ [.dk (dkS ps)])) (g := y1) (ws := ["seen", "held"]) H.G H.h4 hl2 (ρ := ρT l r ws (some (.loc (st.length + ([] : List Cell).length))) e4 (some (.lst ((k0 :: k1 :: kr).map D.str)))) rfl ok1 (ev_lst2 ev_cst ev_cst) (by decide) (by decide)
      have at0 : ∀ y, (SP1 st ps l y)[st.length + ([] : List Cell).length]? = some (.dk (dkS ps)) := fun y => last_at hl
      have i0 : ev (callN T (n + 2)) (.idx (.var 5) (.cst (.int 0))) (ρT l r ws (some (.loc (st.length + ([] : List Cell).length))) e4 (some (.lst ((k0 :: k1 :: kr).map D.str)))) (SP1 st ps l y2) = .ok (.str k0) (SP1 st ps l y2) := by
        rw [ev, ev_var (d := .lst ((k0 :: k1 :: kr).map D.str)) rfl, R.bind_ok, ev_cst, R.bind_ok]
        exact ix_lm (xs := k0 :: k1 :: kr) (h := 0) rfl rfl
      have i1 : ev (callN T (n + 2)) (.idx (.var 5) (.cst (.int 1))) (ρT l r ws (some (.loc (st.length + ([] : List Cell).length))) e4 (some (.lst ((k0 :: k1 :: kr).map D.str)))) (SP1 st ps l y2) = .ok (.str k1) (SP1 st ps l y2) := by
        rw [ev, ev_var (d := .lst ((k0 :: k1 :: kr).map D.str)) rfl, R.bind_ok, ev_cst, R.bind_ok]
        exact ix_lm (xs := k0 :: k1 :: kr) (h := 1) rfl rfl
      have x3 : ev (callN T (n + 2)) (.slc true (.idx (.var 3) (.idx (.var 5) (.cst (.int 0)))) [(.cst (.int 1))] []) (ρT l r ws (some (.loc (st.length + ([] : List Cell).length))) e4 (some (.lst ((k0 :: k1 :: kr).map D.str)))) (SP1 st ps l y2) = .ok (.tup [b0, .str z0, x0, q0]) (SP1 st ps l y2) := by
        have z : ev (callN T (n + 2)) (.idx (.var 3) (.idx (.var 5) (.cst (.int 0)))) (ρT l r ws (some (.loc (st.length + ([] : List Cell).length))) e4 (some (.lst ((k0 :: k1 :: kr).map D.str)))) (SP1 st ps l y2) = .ok (sv w0 b0 z0 x0 q0) (SP1 st ps l y2) := by
          rw [ev, ev_var (d := .loc (st.length + ([] : List Cell).length)) rfl, R.bind_ok, i0, R.bind_ok, idx_dk' (at0 y2) hv, e0]
        rw [ev, z]
        simp only [ev, evs, R.bind_ok, oneIntR, oneInt]
        exact sl_tail
      have x4 : ev (callN T (n + 2)) nwv (ρT l r ws (some (.loc (st.length + ([] : List Cell).length))) e4 (some (.lst ((k0 :: k1 :: kr).map D.str)))) (SP1 st ps l y1) = .ok (sv way b0 z0 x0 q0) (SP1 st ps l y2) := by
        have x2 : ev (callN T (n + 2)) (.call true 4 [(.var 0), (.lst true [(.cst (.str "seen")), (.cst (.str "held"))])] []) (ρT l r ws (some (.loc (st.length + ([] : List Cell).length))) e4 (some (.lst ((k0 :: k1 :: kr).map D.str)))) (SP1 st ps l y1) = .ok (.str way) (SP1 st ps l y2) := x2
        unfold nwv
        rw [ev, ev_tup1 x2, R.bind_ok, x3, R.bind_ok]
        simp only [binop, look_tup']
        rw [if_pos (small_le (b := 1000) (by show 1 + 4 ≤ 1000; decide) (by decide))]
        rfl
      refine ⟨putS ps k1 (sv way b0 z0 x0 q0), y2, ok2, hp.put k1 ⟨way, z0, b0, x0, q0, rfl, f1, f2, f3⟩, putS_len _ _, ?_⟩
      rw [if_pos rfl]
      refine (ex_go ?_).trans exs_nil
      rw [ex, x4, R.toF_ok, ev_var (d := .loc (st.length + ([] : List Cell).length)) rfl, R.toF_ok, i1, R.toF_ok, set_box (at0 y2) (by unfold dkS; rw [List.length_map]; omega), R.toF_ok, sq_set hl, last_set, put_dk]
def keysE : E := .prm .sorted true [(.var 3)]
theorem b9_eq : b9 = [.asg 3 (.dic []), .forr [4] true (.iSeq (.slc true (.var 2) [] [(.cst (.int 3))])) sb, .asg 5 keysE, lastS, .ret (.prm .tuple true [(.sit (.var 3))])] := rfl
theorem slots_ok (H : Has T) (hl : l < st.length) (ok : Ok2 g) (hr : RoomOk r) (w3 : 3 ≤ ws.length) (w1 : ws.length ≤ 10) : ∃ (ps : List SP) (g' : List D), Ok2 g' ∧ Sls ps ∧ callN T (n + 4) 9 [.loc l, rmD r, .lst (ws.map D.str)] (sg st l g) = .ok (told ps) (sg st l g') := by
  have x1 := dic_ev (cf := callN T (n + 3)) (ρ := ρT l r ws none none none) (cs := []) (g := g) hl
  have i2 : evI (callN T (n + 3)) (.iSeq (.slc true (.var 2) [] [(.cst (.int 3))])) (ρT l r ws (some (.loc (st.length + ([] : List Cell).length))) none none) (SP1 st [] l g) = .ok ((ws.take 3).map D.str, none) (SP1 st [] l g) := by
    have z : ev (callN T (n + 3)) (.slc true (.var 2) [] [(.cst (.int 3))]) (ρT l r ws (some (.loc (st.length + ([] : List Cell).length))) none none) (SP1 st [] l g) = .ok (.lst ((ws.take 3).map D.str)) (SP1 st [] l g) := ev_slc (k := 3) rfl w3 (by omega)
    rw [evI, z, R.bind_ok]
    rfl
  obtain ⟨ρ', s', f1, ps, y1, e4, ok1, hp, pl, rfl, rfl⟩ := loopF_inv (ck := fun s => stands s ((ws.take 3).map D.str) none) (f := fstep (callN T (n + 3)) [4] true sb)
    (fun t ρ s => ∃ (ps : List SP) (y : List D) (e4 : Option D), Ok2 y ∧ PsOk ps ∧ ps.length ≤ t ∧ ρ = ρT l r ws (some (.loc (st.length + ([] : List Cell).length))) e4 none ∧ s = SP1 st ps l y) (xs := (ws.take 3).map D.str) (k := 0) (ρ := ρT l r ws (some (.loc (st.length + ([] : List Cell).length))) none none) (s := SP1 st [] l g) (fun _ _ _ _ => trivial) (fun t d hd ρ s hp => by
      obtain ⟨ps, y, e4, oky, hp, pl, rfl, rfl⟩ := hp
      have hlt := (List.getElem?_eq_some_iff.mp hd).1
      simp at hlt
      rw [List.getElem?_map] at hd
      obtain ⟨w, _, rfl⟩ := Option.map_eq_some_iff.mp hd
      obtain ⟨ps', g', ok', hp', pl', e⟩ := sturn (n := n) (ws := ws) H hl oky hr w3 w1 hp (by omega) (w := w) (e4 := e4) (e5 := none)
      exact ⟨_, _, e, ps', g', _, ok', hp', by omega, rfl, rfl⟩) ⟨[], g, none, ok, ps_nil, Nat.le_refl _, rfl, rfl⟩
  have pl : ps.length ≤ 3 := by simp at pl; omega
  have at1 : (SP1 st ps l y1)[st.length + ([] : List Cell).length]? = some (.dk (dkS ps)) := last_at hl
  obtain ⟨ks, hks, _⟩ := list_of D.str (fun _ => True) (xs := sortD ((ps.map (·.1)).map D.str)) fun d hd => by
    obtain ⟨z, _, rfl⟩ := List.mem_map.mp ((Sl.sortD_p _).mem_iff.mp hd)
    exact ⟨z, rfl, trivial⟩
  have hk : (ks.map D.str).Perm ((ps.map (·.1)).map D.str) := by rw [← hks]; exact Sl.sortD_p _
  have x3 : ev (callN T (n + 3)) keysE (ρT l r ws (some (.loc (st.length + ([] : List Cell).length))) e4 none) (SP1 st ps l y1) = .ok (.lst (ks.map D.str)) (SP1 st ps l y1) := by
    unfold keysE
    rw [ev, evs, ev_var (d := .loc (st.length + ([] : List Cell).length)) rfl, R.bind_ok, evs, R.bind_ok, R.bind_ok]
    have e1 : look (SP1 st ps l y1) (.loc (st.length + ([] : List Cell).length)) = .loc (st.length + ([] : List Cell).length) := by simp only [look, at1]
    have e3 : ((dkS ps).map fun q => kD q.1) = (ps.map (·.1)).map D.str := by
      unfold dkS
      rw [List.map_map, List.map_map]
      rfl
    simp only [prim, e1, dct_at at1, e3]
    rw [if_pos (sortOk_strs (by rw [List.length_map]; omega)), hks]
    have := hk.length_eq
    rw [List.length_map, List.length_map, List.length_map] at this
    exact made_old' (by rw [List.length_map]; omega)
  obtain ⟨ps2, y2, ok2, hp2, pl2, x4⟩ := last_ex (n := n + 1) (r := r) (ws := ws) H hl ok1 hp (by omega) hk (e4 := e4)
  have at2 : (SP1 st ps2 l y2)[st.length + ([] : List Cell).length]? = some (.dk (dkS ps2)) := last_at hl
  have so : sortedItems (.loc (st.length + ([] : List Cell).length)) (SP1 st ps2 l y2) = .ok (.lst ((srt ps2).map pD)) (SP1 st ps2 l y2) := by
    unfold sortedItems
    rw [dct_at at2]
    simp only [it_dk]
    rw [if_pos (headsOk_pD hp2.o (by omega)), sortH_map]
  have x5 : ev (callN T (n + 3)) (.prm .tuple true [(.sit (.var 3))]) (ρT l r ws (some (.loc (st.length + ([] : List Cell).length))) e4 (some (.lst (ks.map D.str)))) (SP1 st ps2 l y2) = .ok (told (srt ps2)) (SP1 st ps2 l y2) := by
    rw [ev, evs, ev, ev_var (d := .loc (st.length + ([] : List Cell).length)) rfl, R.bind_ok, so, R.bind_ok, evs, R.bind_ok, R.bind_ok]
    rfl
  have S : Sls (srt ps2) := ⟨hp2.o.perm (srt_p ps2).symm, by rw [(srt_p ps2).length_eq]; omega, fun p hp => hp2.v p ((srt_p ps2).mem_iff.mp hp)⟩
  refine ⟨srt ps2, y2, ok2, S, backX (n := n + 3) (x := [] ++ [.dk (dkS ps2)]) H.G H.h9 rfl ok2 (told_flat S) ?_⟩
  show exs (callN T (n + 3)) b9 (ρT l r ws none none none) (sg st l g) = _
  rw [b9_eq, ← sq_eq hl, ← sq_nil]
  exact (asg_go x1).trans ((for_go i2 f1).trans ((asg_go x3).trans ((ex_go x4).trans (ret_rt x5))))
/-! ### the law -/
def lbody : List S := [.asg 2 (.call false 2 [(.var 0), (.var 1)] []), .asg 3 (.call true 6 [(.var 2), (.cst (.int 5))] []), .asg 4 (.call true 7 [(.var 2), (.var 3)] []), .asg 5 (.call true 9 [(.var 2), (.var 4), (.var 3)] []), .iff (.or (.not (.call true 12 [(.var 5), (.var 3)] [])) (.not (.call true 12 [(.call true 11 [(.var 2), (.var 5)] []), (.var 3)] []))) [.ret (.cst (.bl false))] []]
def rngL : E := .iRng [(.prm .max true [(.cst (.int 2)), (.prm .min true [(.prm .len true [(.var 0)]), (.cst (.int 30))])])]
theorem b13_eq : b13 = [.forr [1] true rngL lbody, .ret (.cst (.bl true))] := rfl
theorem turn (H : Has T) {ns : List Int} (hl : ns.length ≤ 63) {k : Nat} {e1 e2 e3 e4 e5 : Option D} (s : Store) : ∃ s' e2' e3' e4' e5', fstep (callN T (n + 4)) [1] true lbody (.int (0 + (k : Int))) [some (.lst (ns.map D.int)), e1, e2, e3, e4, e5] s = .nx [some (.lst (ns.map D.int)), some (.int (0 + (k : Int))), e2', e3', e4', e5'] s' := by
  unfold fstep
  simp only [bindT, if_true, put, List.set_cons_zero, List.set_cons_succ]
  obtain ⟨g, ok, b⟩ := begun_ok (T := T) (i := 2) (n := n + 3) H.h2 (st := s) (ns := ns) (k := k) hl
  have x1 : ev (callN T (n + 4)) (.call false 2 [(.var 0), (.var 1)] []) [some (.lst (ns.map D.int)), some (.int (0 + (k : Int))), e2, e3, e4, e5] s = .ok (.loc s.length) (s ++ [.lst g]) := by
    simp only [ev, evs, List.getElem?_cons_zero, List.getElem?_cons_succ, R.bind_ok, List.append_nil, Bool.false_eq_true, if_false, Int.zero_add]
    exact b
  have sl : s ++ [Cell.lst g] = sg (s ++ [.lst g]) s.length g := by
    unfold sg
    rw [List.set_append_right _ _ (Nat.le_refl _), Nat.sub_self, List.set_cons_zero]
  have hL : s.length < (s ++ [Cell.lst g]).length := by simp
  rw [sl] at x1
  generalize s ++ [Cell.lst g] = s1 at x1 hL
  obtain ⟨ws, y1, ok1, n1, wl, _, _⟩ := words_good (n := n + 2) H.G H.h5 H.h6 hL ok (m := 5) (by decide)
  have x2 : ev (callN T (n + 4)) (.call true 6 [(.var 2), (.cst (.int 5))] []) [some (.lst (ns.map D.int)), some (.int (0 + (k : Int))), some (.loc s.length), e3, e4, e5] (sg s1 s.length g) = .ok (.lst (ws.map D.str)) (sg s1 s.length y1) := by
    have n1 : callN T (n + 4) 6 [.loc s.length, .int 5] (sg s1 s.length g) = .ok (.lst (ws.map D.str)) (sg s1 s.length y1) := n1
    simp only [ev, evs, List.getElem?_cons_zero, List.getElem?_cons_succ, R.bind_ok, List.append_nil, if_true, n1, freeze_lst]
  obtain ⟨r, y2, ok2, hr, n2⟩ := room_ok (n := n + 1) (ws := ws) H hL ok1 (by omega) (by omega)
  have x3 : ev (callN T (n + 4)) (.call true 7 [(.var 2), (.var 3)] []) [some (.lst (ns.map D.int)), some (.int (0 + (k : Int))), some (.loc s.length), some (.lst (ws.map D.str)), e4, e5] (sg s1 s.length y1) = .ok (rmD r) (sg s1 s.length y2) := by
    simp only [ev, evs, List.getElem?_cons_zero, List.getElem?_cons_succ, R.bind_ok, List.append_nil, if_true, n2]
    exact frz_flat' (rm_flat hr.f)
  obtain ⟨ps, y3, ok3, hs, n3⟩ := slots_ok (n := n) (ws := ws) H hL ok2 hr (by omega) (by omega)
  have x4 : ev (callN T (n + 4)) (.call true 9 [(.var 2), (.var 4), (.var 3)] []) [some (.lst (ns.map D.int)), some (.int (0 + (k : Int))), some (.loc s.length), some (.lst (ws.map D.str)), some (rmD r), e5] (sg s1 s.length y2) = .ok (told ps) (sg s1 s.length y3) := by
    simp only [ev, evs, List.getElem?_cons_zero, List.getElem?_cons_succ, R.bind_ok, List.append_nil, if_true, n3]
    exact frz_flat' (told_flat hs)
  obtain ⟨ps', y4, ok4, hs', n4⟩ := near_ok (n := n + 2) H hL ok3 hs
  have x5 : ev (callN T (n + 4)) (.call true 12 [(.var 5), (.var 3)] []) [some (.lst (ns.map D.int)), some (.int (0 + (k : Int))), some (.loc s.length), some (.lst (ws.map D.str)), some (rmD r), some (told ps)] (sg s1 s.length y3) = .ok (.bl true) (sg s1 s.length y3) := by
    simp only [ev, evs, List.getElem?_cons_zero, List.getElem?_cons_succ, R.bind_ok, List.append_nil, if_true, right_ok (n := n + 1) H hs (ws := ws) (by omega) (by omega), freeze_bl]
  have x6 : ev (callN T (n + 4)) (.call true 11 [(.var 2), (.var 5)] []) [some (.lst (ns.map D.int)), some (.int (0 + (k : Int))), some (.loc s.length), some (.lst (ws.map D.str)), some (rmD r), some (told ps)] (sg s1 s.length y3) = .ok (told ps') (sg s1 s.length y4) := by
    simp only [ev, evs, List.getElem?_cons_zero, List.getElem?_cons_succ, R.bind_ok, List.append_nil, if_true, n4]
    exact frz_flat' (told_flat hs')
  have x7 : ev (callN T (n + 4)) (.call true 12 [(.call true 11 [(.var 2), (.var 5)] []), (.var 3)] []) [some (.lst (ns.map D.int)), some (.int (0 + (k : Int))), some (.loc s.length), some (.lst (ws.map D.str)), some (rmD r), some (told ps)] (sg s1 s.length y3) = .ok (.bl true) (sg s1 s.length y4) := by
    rw [ev, evs, x6, R.bind_ok, evs, ev_var (d := .lst (ws.map D.str)) rfl, R.bind_ok, evs, R.bind_ok, R.bind_ok, R.bind_ok]
    simp only [List.append_nil, if_true, right_ok (n := n + 1) H hs' (ws := ws) (by omega) (by omega), freeze_bl]
  have c : asBool (ev (callN T (n + 4)) (.or (.not (.call true 12 [(.var 5), (.var 3)] [])) (.not (.call true 12 [(.call true 11 [(.var 2), (.var 5)] []), (.var 3)] []))) [some (.lst (ns.map D.int)), some (.int (0 + (k : Int))), some (.loc s.length), some (.lst (ws.map D.str)), some (rmD r), some (told ps)] (sg s1 s.length y3)) = .ok false (sg s1 s.length y4) := by
    rw [ev, ev, x5, asBool_ok, R.bind_ok, R.bind_ok]
    simp only [Bool.not_true, truth_bl]
    rw [ev, x7, asBool_ok, R.bind_ok]
    rfl
  refine ⟨sg s1 s.length y4, some (.loc s.length), some (.lst (ws.map D.str)), some (rmD r), some (told ps), ?_⟩
  exact (asg_go x1).trans ((asg_go x2).trans ((asg_go x3).trans ((asg_go x4).trans ((iff_no c).trans exs_nil))))
end
theorem has : Has (tabOf ms gs xs).T := ⟨rfl, rfl, rfl, rfl, rfl, rfl, rfl, rfl, rfl, rfl, rfl, rfl, rfl⟩
theorem law_true (ns : List Int) (hl : ns.length ≤ 63) : ∃ st, callN (tabOf ms gs xs).T 20 13 [.lst (ns.map D.int)] [] = .ok (.bl true) st := by
  have H := has
  rw [callN_s (T := (tabOf ms gs xs).T) (n := 19) (k := 13) (fn := m13.fn) rfl rfl]
  show ∃ st, leave [] (exs (callN (tabOf ms gs xs).T 19) b13 [some (.lst (ns.map D.int)), none, none, none, none, none] []) = .ok (.bl true) st
  generalize (tabOf ms gs xs).T = T at H ⊢
  obtain ⟨q, hq1, hq2⟩ : ∃ q : Nat, (if (if (30 : Int) < (ns.length : Int) then (30 : Int) else ns.length) > 2 then (if (30 : Int) < (ns.length : Int) then (30 : Int) else ns.length) else 2) = (q : Int) ∧ q ≤ 30 := by
    by_cases h : (30 : Int) < (ns.length : Int)
    · exact ⟨30, by rw [if_pos h]; rfl, by decide⟩
    · by_cases h2 : (ns.length : Int) > 2
      · exact ⟨ns.length, by rw [if_neg h, if_pos h2], by omega⟩
      · exact ⟨2, by rw [if_neg h, if_neg h2]; rfl, by decide⟩
  have i1 : evI (callN T 19) rngL [some (.lst (ns.map D.int)), none, none, none, none, none] [] = .ok ((List.range q).map (fun (k : Nat) => D.int (0 + (k : Int))), none) [] := by
    refine iRng_ev (ds := [.int (q : Int)]) ?_ (rangeD1 (inR q (by omega)))
    simp only [evs, ev, List.getElem?_cons_zero, R.bind_ok, len_l look_lst', List.length_map, min_int, max_int, hq1]
  obtain ⟨ρ', s', f1, e1, e2, e3, e4, e5, rfl⟩ := loopF_inv (ck := fun s => stands s ((List.range q).map (fun (k : Nat) => D.int (0 + (k : Int)))) none) (f := fstep (callN T 19) [1] true lbody)
    (fun _ ρ _ => ∃ e1 e2 e3 e4 e5 : Option D, ρ = [some (.lst (ns.map D.int)), e1, e2, e3, e4, e5]) (xs := (List.range q).map (fun (k : Nat) => D.int (0 + (k : Int)))) (k := 0) (ρ := [some (.lst (ns.map D.int)), none, none, none, none, none]) (s := []) (fun _ _ _ _ => trivial) (fun t d hd ρ s hp => by
      obtain ⟨e1, e2, e3, e4, e5, rfl⟩ := hp
      rw [List.getElem?_map] at hd
      obtain ⟨k', _, rfl⟩ := Option.map_eq_some_iff.mp hd
      obtain ⟨s', e2', e3', e4', e5', e⟩ := turn (T := T) (n := 15) H hl (k := k') (e1 := e1) (e2 := e2) (e3 := e3) (e4 := e4) (e5 := e5) s
      exact ⟨_, _, e, _, _, _, _, _, rfl⟩) ⟨none, none, none, none, none, rfl⟩
  refine ⟨([] : Store), ?_⟩
  rw [b13_eq, exs_cons, ex_for, i1, R.toF_ok, f1, F.thn_nx]
  simp only [exs, ex, ev, R.toF_ok, F.thn_rt, leave_rt]
  exact canon_bl ⟨Nat.zero_le _, fun l hl => absurd hl (Nat.not_lt_zero _)⟩
end K15
/-! K15Z: the claim. -/
namespace K15
open PySem Mi
theorem bindsAll : ∀ m ∈ ms, m.BindsOk := by
  intro m hm
  simp only [ms, List.mem_cons, List.not_mem_nil, or_false] at hm
  rcases hm with rfl | rfl | rfl | rfl | rfl | rfl | rfl | rfl | rfl | rfl | rfl | rfl | rfl | rfl
  all_goals first
    | exact binds_none rfl rfl rfl fun _ _ _ _ _ _ us hl => match us, hl with | [_], _ => rfl
    | exact binds_none rfl rfl rfl fun _ _ _ _ _ _ us hl => match us, hl with | [_, _], _ => rfl
    | exact binds_none rfl rfl rfl fun _ _ _ _ _ _ us hl => match us, hl with | [_, _, _], _ => rfl
    | exact binds_none rfl rfl rfl fun _ _ _ _ _ _ us hl => match us, hl with | [], _ => rfl
    | exact binds_none rfl rfl rfl fun _ _ _ _ _ _ us hl => match us, hl with | [_, _, _, _], _ => rfl
    | exact binds_none rfl rfl rfl fun _ _ _ _ _ _ us hl => match us, hl with | [_, _, _, _, _], _ => rfl
    | exact binds_none rfl rfl rfl fun _ _ _ _ _ _ us hl => match us, hl with | [_, _, _, _, _, _], _ => rfl
end K15
open PySem PySem.W PySem.Calls PyProof.Rows
theorem PySem.Challenge.cw_stillso_k15_guards_holds : PySem.Challenge.rw_stillso_k15_guards.Holds := by
  w_on; o_law
  refine HandSHeadRun.head_any (r := K15.R) (q := view K15.R.prog [16]) (H := K15.hkM) (ob := K15.ob) (M := 12000) (loose := [("has" : Str), ("guard_holds" : Str), ("_law_begun" : Str), ("_law_next" : Str), ("_law_pick" : Str), ("_law_kept" : Str), ("_law_words" : Str), ("_law_room" : Str), ("_law_seen" : Str), ("_law_slots" : Str), ("_law_guarded" : Str), ("_law_near" : Str), ("_law_right" : Str)]) (d := HandSHeadRun.topDef K15.R.prog 16) (kwd := []) K15.ob_eq
    (by kernel_rfl) (fun s => by kernel_rfl) K15.run (by kernel_rfl) (by kernel_rfl) (by kernel_rfl) (by rfl) (by first | assumption | decide +kernel) (by decide +kernel) ⟨rfl, rfl, rfl, rfl, rfl, by decide +kernel⟩ ?hw ?hc
  case hw => w_witness2
  case hc =>
    exact Mi.walk_ms (l := PySem.Challenge.rw_stillso_k15_guards) (ms := K15.ms) (gs := K15.gs) (xs := K15.xs) (n := 19) (i := 13) (m := K15.m13) (x := "_law_script") rfl (by decide) (by kernel_rfl) ⟨rfl, by decide, by decide⟩ K15.ms_ok K15.bindsAll rfl rfl (by kernel_rfl) rfl (fun _ _ _ _ _ _ us hl => match us, hl with | [_], _ => rfl) K15.law_true
