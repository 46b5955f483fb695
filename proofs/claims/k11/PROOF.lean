import PyProof.Rows.All
import Wide.All
import OpenK.AllK
import Wide.FinOn
import HandS.ForMost
import HandS.ForExc
import HandS.Lambda
import HandS.Deep
import HandS.TupAny
import HandS.Defaults
import HandS.Style
import HandS.NoneIn
import HandS.IsInst
import HandS.WordsDict
import HandS.TupLen
import HandS.Strs
import HandS.Conv
import PyProof.CollectStr
import HandS.Codes
import HandS.Set
import HandS.Flow
import HandS.Star
import HandS.Iter
import KE.GoesEnum
import HandS.Zip
import HandS.Walk
import HandS.CallSlots
import HandS.ExcValue
import PyProof.Rows.SortShellAny
import HandS.More
import HandS.DictComp
import PyProof.EqAt
import PyProof.EqKinds
import PyProof.TupleCall
import KE.KExcSuper
import HandS.ExcInit
import HandS.ExcField
import HandS.HeadWalk
import HandS.Head2
import HandS.HeadHook4
import PySem.Challenge.RW_paircuts_k11_whole_changes_there_and_bac
section
set_option Elab.async false
set_option linter.all false
set_option maxRecDepth 100000
/-! DL0: plain data, a store of mutable objects, a small language and what it computes (no machine in sight). -/
namespace DL
open PySem

/-! ### values -/
/-- str: code points; lst: a list that nobody changes any more; ref: a mutable object of the store; fn: a def of the module (by its place in the table); exc: an exception that was caught; scr: the script; key: a tuple that may be put into a dict as a key -/
inductive D where
  | non | bl (b : Bool) | int (i : Int) | str (x : List Nat) | tup (ds : List D) | lst (ds : List D) | ref (n : Nat) | fn (i : Nat) | ty (n : String) | exc (c : Nat) (ds : List D) | scr (ns : List Int) | key (ds : List D)
deriving Inhabited

mutual
/-- plain data, as the model has it -/
def D.toP : D → PyData
  | .non => .none
  | .bl b => .bool b
  | .int i => .int i
  | .str x => .str ⟨x.toArray⟩
  | .tup ds => .tuple (D.toPs ds)
  | .lst ds => .list (D.toPs ds)
  | .ref _ => .none
  | .fn _ => .none
  | .ty _ => .none
  | .exc _ _ => .none
  | .scr _ => .none
  | .key ds => .tuple (D.toPs ds)
def D.toPs : List D → List PyData
  | [] => []
  | d :: ds => D.toP d :: D.toPs ds
end
mutual
/-- no reference within -/
def D.plain : D → Bool
  | .non => true
  | .bl _ => true
  | .int _ => true
  | .str _ => true
  | .tup ds => D.plains ds
  | .lst ds => D.plains ds
  | .ref _ => false
  | .fn _ => false
  | .ty _ => false
  | .exc _ _ => false
  | .scr _ => false
  | .key ds => D.plains ds
def D.plains : List D → Bool
  | [] => true
  | d :: ds => D.plain d && D.plains ds
end
mutual
/-- how deep -/
def D.depth : D → Nat
  | .tup ds => D.depths ds + 1
  | .lst ds => D.depths ds + 1
  | .non => 0
  | .bl _ => 0
  | .int _ => 0
  | .str _ => 0
  | .ref _ => 0
  | .fn _ => 0
  | .ty _ => 0
  | .exc _ _ => 0
  | .scr _ => 0
  | .key ds => D.depths ds + 1
def D.depths : List D → Nat
  | [] => 0
  | d :: ds => max (D.depth d) (D.depths ds)
end
mutual
/-- the references within lie below n -/
def D.bnd (n : Nat) : D → Bool
  | .ref k => decide (k < n)
  | .tup ds => D.bnds n ds
  | .lst ds => D.bnds n ds
  | .exc _ ds => D.bnds n ds
  | .scr _ => true
  | .key ds => D.bnds n ds
  | .non => true
  | .bl _ => true
  | .int _ => true
  | .str _ => true
  | .fn _ => true
  | .ty _ => true
def D.bnds (n : Nat) : List D → Bool
  | [] => true
  | d :: ds => D.bnd n d && D.bnds n ds
end
/-- may be compared: plain, not too deep -/
def D.okEq (d : D) : Bool := d.plain && decide (d.depth ≤ 64)
def D.eqv (a b : D) : Bool := PyData.eqv a.toP b.toP

/-! ### the store -/
/-- ins: an instance of class c, its fields by number -/
inductive MO where
  | lst (ds : List D) | dict (tk : Bool) (kvs : List (D × D)) | ins (c : Nat) (fs : List (Nat × D))
deriving Inhabited
abbrev Store := List MO
def kvsBnd (n : Nat) : List (D × D) → Bool
  | [] => true
  | (_, d) :: r => d.bnd n && kvsBnd n r
def fsBnd (n : Nat) : List (Nat × D) → Bool
  | [] => true
  | (_, d) :: r => d.bnd n && fsBnd n r
def MO.bnd (n : Nat) : MO → Bool
  | .lst ds => D.bnds n ds
  | .dict _ kvs => kvsBnd n kvs
  | .ins _ fs => fsBnd n fs
def storeBnd (n : Nat) : Store → Bool
  | [] => true
  | o :: r => o.bnd n && storeBnd n r

/-! ### results -/
/-- ex: an exception of class c with these fields; no: the language does not say -/
inductive R (α : Type) where
  | ok (a : α) (M : Store) | ex (c : Nat) (ds : List D) (M : Store) | no
def R.bind {α β : Type} (r : R α) (f : α → Store → R β) : R β := match r with
  | .ok a M => f a M
  | .ex c ds M => .ex c ds M
  | .no => .no
abbrev Env := List (Option D)
/-- how a statement ends -/
inductive F where
  | nx (ρ : Env) (M : Store) | rt (d : D) (M : Store) | bk (ρ : Env) (M : Store) | ct (ρ : Env) (M : Store) | ex (c : Nat) (ds : List D) (ρ : Env) (M : Store) | no
def R.toF {α : Type} (r : R α) (ρ : Env) (f : α → Store → F) : F := match r with
  | .ok a M => f a M
  | .ex c ds M => .ex c ds ρ M
  | .no => .no
def F.seq (a : F) (f : Env → Store → F) : F := match a with
  | .nx ρ M => f ρ M
  | .rt d M => .rt d M
  | .bk ρ M => .bk ρ M
  | .ct ρ M => .ct ρ M
  | .ex c ds ρ M => .ex c ds ρ M
  | .no => .no

@[simp] theorem R.bind_ok {α β : Type} (a : α) (M : Store) (f : α → Store → R β) : (R.ok a M).bind f = f a M := rfl
@[simp] theorem R.bind_ex {α β : Type} (c : Nat) (ds : List D) (M : Store) (f : α → Store → R β) : (R.ex c ds M : R α).bind f = .ex c ds M := rfl
@[simp] theorem R.bind_no {α β : Type} (f : α → Store → R β) : (R.no : R α).bind f = .no := rfl
@[simp] theorem R.toF_ok {α : Type} (a : α) (M : Store) (ρ : Env) (f : α → Store → F) : (R.ok a M).toF ρ f = f a M := rfl
@[simp] theorem R.toF_ex {α : Type} (c : Nat) (ds : List D) (M : Store) (ρ : Env) (f : α → Store → F) : (R.ex c ds M : R α).toF ρ f = .ex c ds ρ M := rfl
@[simp] theorem R.toF_no {α : Type} (ρ : Env) (f : α → Store → F) : (R.no : R α).toF ρ f = .no := rfl
@[simp] theorem F.seq_nx (ρ : Env) (M : Store) (f : Env → Store → F) : (F.nx ρ M).seq f = f ρ M := rfl
@[simp] theorem F.seq_rt (d : D) (M : Store) (f : Env → Store → F) : (F.rt d M).seq f = .rt d M := rfl
@[simp] theorem F.seq_bk (ρ : Env) (M : Store) (f : Env → Store → F) : (F.bk ρ M).seq f = .bk ρ M := rfl
@[simp] theorem F.seq_ct (ρ : Env) (M : Store) (f : Env → Store → F) : (F.ct ρ M).seq f = .ct ρ M := rfl
@[simp] theorem F.seq_ex (c : Nat) (ds : List D) (ρ : Env) (M : Store) (f : Env → Store → F) : (F.ex c ds ρ M).seq f = .ex c ds ρ M := rfl
@[simp] theorem F.seq_no (f : Env → Store → F) : F.no.seq f = .no := rfl

/-! ### built-in operations -/
def line : Nat := 16777216
/-- a list of the store, read as a value -/
def rdR (n : Nat) : Option MO → D
  | some (.lst ds) => .lst ds
  | _ => .ref n
def rd (M : Store) : D → D
  | .ref n => rdR n M[n]?
  | d => d
/-- .. and a tuple of either kind -/
def rk (M : Store) (d : D) : D := match rd M d with
  | .key ds => .tup ds
  | x => x
/-- truth of a value -/
def truth (M : Store) (d : D) : Option Bool := match rk M d with
  | .non => some false
  | .bl b => some b
  | .int i => some (i != 0)
  | .str x => if x.length ≤ line then some (x.length != 0) else none
  | .tup ds => some (!ds.isEmpty)
  | .lst ds => some (!ds.isEmpty)
  | _ => none
def scal : D → Bool
  | .non => true
  | .bl _ => true
  | .int _ => true
  | .str _ => true
  | _ => false
/-- == -/
def eqD (M : Store) (a b : D) : Option Bool :=
  let a := rd M a
  let b := rd M b
  if a.okEq && b.okEq then some (a.eqv b) else none
/-- the place that an index of any sign means -/
abbrev place (n : Nat) (i : Int) : Option Nat := L2.ixN n i
abbrev nth {α : Type} (xs : List α) (i : Int) : Option α := L2.atI xs i
/-- a slice's bound -/
abbrev clip (n d : Nat) (o : Option Int) : Nat := HT.sIx n d o
def cut {α : Type} (xs : List α) (lo hi : Option Int) : List α := (xs.drop (clip xs.length 0 lo)).take (clip xs.length xs.length hi - clip xs.length 0 lo)
/-- the entry of a key -/
def look (kvs : List (D × D)) (k : D) : Option D := match kvs with
  | [] => none
  | (k', d) :: r => if k'.eqv k then some d else look r k
def putKv (kvs : List (D × D)) (k v : D) : List (D × D) :=
  if kvs.any (fun p => p.1.eqv k) = true then kvs.map (fun p => if p.1.eqv k = true then (p.1, v) else p) else kvs ++ [(k, v)]
def isKey : D → Bool
  | .int _ => true
  | .str _ => true
  | _ => false
/-- a key of a dict: of ints and texts, or of tuples of these -/
def asTup : D → Option (List D)
  | .tup ds => some ds
  | .key ds => some ds
  | _ => none
/-- may be asked of a dict -/
def keyOk (tk : Bool) (k : D) : Bool := if tk then (match asTup k with
  | some ds => ds.all isKey
  | none => false) else isKey k
/-- may be put into a dict -/
def putOk (tk : Bool) (k : D) : Bool := if tk then (match k with
  | .key ds => ds.all isKey
  | _ => false) else isKey k
/-- order of code points -/
def ltN : List Nat → List Nat → Bool
  | [], [] => false
  | [], _ :: _ => true
  | _ :: _, [] => false
  | a :: x, b :: y => if a = b then ltN x y else decide (a < b)

inductive O1 where
  | neg | len | int | tuple | tupleK | list | all | any | isT (n : String) | sorted | sortedSet | lenSet | bool | sum | xf (c i : Nat) | fld (n : Nat)
deriving DecidableEq
inductive O2 where
  | add | sub | mul | fdiv | mod | pow | eq | ne | lt | le | gt | ge | isin | notin | isN | notN | ix | join | index | indexT | isC
deriving DecidableEq

/-- the built-in type's name -/
def tyOf (M : Store) (d : D) : Option String := match rk M d with
  | .non => some "NoneType"
  | .bl _ => some "bool"
  | .int _ => some "int"
  | .str _ => some "str"
  | .tup _ => some "tuple"
  | .lst _ => some "list"
  | .ref n => match M[n]? with
    | some (.dict _ _) => some "dict"
    | _ => none
  | _ => none
def isTy (t n : String) : Bool := t == n || (t == "bool" && n == "int")
def allB : List D → Option Bool
  | [] => some true
  | .bl b :: r => (allB r).map (b && ·)
  | _ => none
def anyB : List D → Option Bool
  | [] => some false
  | .bl b :: r => (anyB r).map (b || ·)
  | _ => none
def strsOf : List D → Option (List (List Nat))
  | [] => some []
  | .str x :: r => (strsOf r).map (x :: ·)
  | _ => none
def intsOf : List D → Option (List Int)
  | [] => some []
  | .int x :: r => (intsOf r).map (x :: ·)
  | _ => none
/-- put into an ascending list, unless it is there -/
def insN {α : Type} [DecidableEq α] (lt : α → α → Bool) (x : α) : List α → List α
  | [] => [x]
  | y :: r => if x = y then y :: r else if lt x y then x :: y :: r else y :: insN lt x r
/-- put into an ascending list, ahead of what is not less -/
def insS {α : Type} (lt : α → α → Bool) (x : α) : List α → List α
  | [] => [x]
  | y :: r => if lt y x then y :: insS lt x r else x :: y :: r
def sortS {α : Type} (lt : α → α → Bool) : List α → List α
  | [] => []
  | x :: r => insS lt x (sortS lt r)
def setSort {α : Type} [DecidableEq α] (lt : α → α → Bool) : List α → List α
  | [] => []
  | x :: r => insN lt x (setSort lt r)
def dedup {α : Type} [DecidableEq α] : List α → List α
  | [] => []
  | x :: r => if x ∈ r then dedup r else x :: dedup r
abbrev joinN (sep : List Nat) (xs : List (List Nat)) : List Nat := TL.joinL sep xs
def itemsOf (M : Store) (d : D) : Option (List D) := match rk M d with
  | .tup ds => some ds
  | .lst ds => some ds
  | _ => none
def letters (x : List Nat) : List D := x.map fun c => .str [c]
def indexD (ds : List D) (d : D) : Option Nat := match ds with
  | [] => none
  | x :: r => if x.eqv d then some 0 else (indexD r d).map (· + 1)

def indexS (xs : List (List Nat)) (x : List Nat) : Option Nat := match xs with
  | [] => none
  | y :: r => if y = x then some 0 else (indexS r x).map (· + 1)

def ev1 (o : O1) (a : D) (M : Store) : Option D := match o with
  | .neg => match a with
    | .int i => some (.int (-i))
    | _ => none
  | .len => match rk M a with
    | .str x => if x.length ≤ line then some (.int x.length) else none
    | .tup ds => some (.int ds.length)
    | .lst ds => some (.int ds.length)
    | .ref n => match M[n]? with
      | some (.dict _ kvs) => some (.int kvs.length)
      | _ => none
    | _ => none
  | .int => match a with
    | .int i => some (.int i)
    | .bl b => some (.int (if b then 1 else 0))
    | _ => none
  | .tuple => match rd M a with
    | .tup ds => some (.tup ds)
    | .key ds => some (.key ds)
    | .lst ds => some (.tup ds)
    | .str x => if x.length ≤ line then some (.tup (letters x)) else none
    | _ => none
  | .tupleK => match rd M a with
    | .lst ds => some (.key ds)
    | .tup ds => some (.tup ds)
    | .key ds => some (.key ds)
    | _ => none
  | .list => match rk M a with
    | .tup ds => some (.lst ds)
    | .lst ds => some (.lst ds)
    | _ => none
  | .all => match rd M a with
    | .lst ds => (allB ds).map .bl
    | _ => none
  | .any => match rd M a with
    | .lst ds => (anyB ds).map .bl
    | _ => none
  | .isT n => (tyOf M a).map fun t => .bl (isTy t n)
  | .sorted => match itemsOf M a with
    | some ds => match strsOf ds with
      | some xs => some (.lst ((sortS ltN xs).map .str))
      | none => none
    | none => none
  | .sortedSet => match rd M a with
    | .lst ds => match strsOf ds with
      | some xs => if xs.length < 60 && xs.all (fun x => x.length == 1) then some (.lst ((setSort ltN xs).map .str)) else none
      | none => none
    | _ => none
  | .lenSet => match itemsOf M a with
    | some ds => match strsOf ds with
      | some xs => if xs.length < 60 && xs.all (fun x => x.length == 1) then some (.int (dedup xs).length) else none
      | none => none
    | _ => none
  | .bool => match a with
    | .bl b => some (.bl b)
    | .int i => some (.bl (i != 0))
    | _ => none
  | .sum => match rd M a with
    | .lst ds => (intsOf ds).map fun ns => .int ns.sum
    | _ => none
  | .xf c i => match a with
    | .exc c' ds => if c' = c then ds[i]? else none
    | _ => none
  | .fld n => match a with
    | .ref r => match M[r]? with
      | some (.ins _ fs) => (fs.find? (fun p => p.1 == n)).map (·.2)
      | _ => none
    | _ => none

def D.isNon : D → Bool
  | .non => true
  | _ => false
def small (i : Int) : Bool := decide (-(2 ^ 64) < i) && decide (i < 2 ^ 64)
def ev2 (o : O2) (a b : D) (M : Store) : Option D := match o with
  | .add => match rd M a, rd M b with
    | .int i, .int j => some (.int (i + j))
    | .str x, .str y => if x.length + y.length ≤ line then some (.str (x ++ y)) else none
    | .lst x, .lst y => if x.length + y.length ≤ line then some (.lst (x ++ y)) else none
    | u, v => match asTup u, asTup v with
      | some x, some y => if x.length + y.length ≤ line then some (if x.isEmpty then v else if y.isEmpty then u else .tup (x ++ y)) else none
      | _, _ => none
  | .sub => match a, b with
    | .int i, .int j => some (.int (i - j))
    | _, _ => none
  | .mul => match a, b with
    | .int i, .int j => if small i || small j then some (.int (i * j)) else none
    | _, _ => none
  | .fdiv => match a, b with
    | .int i, .int j => if 0 < j ∧ j < 1073741824 then some (.int (i / j)) else none
    | _, _ => none
  | .mod => match a, b with
    | .int i, .int j => if 0 < j then some (.int (i % j)) else none
    | _, _ => none
  | .pow => match a, b with
    | .int i, .int j => if 0 ≤ j ∧ j ≤ 1000000 ∧ i.natAbs < 2 ^ 64 then some (.int (i ^ j.toNat)) else none
    | _, _ => none
  | .eq => (eqD M a b).map .bl
  | .ne => (eqD M a b).map fun k => .bl (!k)
  | .lt => match a, b with
    | .int i, .int j => some (.bl (decide (i < j)))
    | .str x, .str y => some (.bl (ltN x y))
    | _, _ => none
  | .le => match a, b with
    | .int i, .int j => some (.bl (decide (i ≤ j)))
    | .str x, .str y => some (.bl (!ltN y x))
    | _, _ => none
  | .gt => match a, b with
    | .int i, .int j => some (.bl (decide (j < i)))
    | .str x, .str y => some (.bl (ltN y x))
    | _, _ => none
  | .ge => match a, b with
    | .int i, .int j => some (.bl (decide (j ≤ i)))
    | .str x, .str y => some (.bl (!ltN x y))
    | _, _ => none
  | .isin => (isinD M a b).map .bl
  | .notin => (isinD M a b).map fun k => .bl (!k)
  | .isN => match b with
    | .non => some (.bl a.isNon)
    | _ => none
  | .notN => match b with
    | .non => some (.bl (!a.isNon))
    | _ => none
  | .ix => match rk M a, b with
    | .tup ds, .int i => nth ds i
    | .lst ds, .int i => nth ds i
    | .str x, .int i => if x.length ≤ line then (nth x i).map fun c => .str [c] else none
    | .ref n, k => match M[n]? with
      | some (.dict tk kvs) => if keyOk tk k then look kvs k else none
      | _ => none
    | _, _ => none
  | .join => match a, rk M b with
    | .str s, .lst ds => match strsOf ds with
      | some xs => if (joinN s xs).length + s.length ≤ line then some (.str (joinN s xs)) else none
      | none => none
    | .str s, .tup ds => match strsOf ds with
      | some xs => if (joinN s xs).length + s.length ≤ line then some (.str (joinN s xs)) else none
      | none => none
    | _, _ => none
  | .index => match rd M a with
    | .lst ds => if (D.lst ds).okEq && (rd M b).okEq then (indexD ds (rd M b)).map fun j => .int j else none
    | _ => none
  | .indexT => match a, b with
    | .tup ds, .str x => match strsOf ds with
      | some xs => (indexS xs x).map fun j => .int (j : Nat)
      | none => none
    | _, _ => none
  | .isC => none
where
  isinD (M : Store) (a b : D) : Option Bool := match rk M b with
    | .str t => match a with
      | .str [c] => some (decide (c ∈ t))
      | _ => none
    | .tup ds => if (D.tup ds).okEq && (rd M a).okEq then some (ds.any fun z => z.eqv (rd M a)) else none
    | .lst ds => if (D.lst ds).okEq && (rd M a).okEq then some (ds.any fun z => z.eqv (rd M a)) else none
    | .ref n => match M[n]? with
      | some (.dict tk kvs) => if keyOk tk a then some (look kvs a).isSome else none
      | _ => none
    | _ => none

/-- a[lo:hi] -/
def sliceI (a : D) (lo hi : Option Int) (M : Store) : Option D := match rd M a with
  | .lst ds => some (.lst (cut ds lo hi))
  | .scr ns => some (.lst ((cut ns lo hi).map .int))
  | .str x => if x.length ≤ line then some (.str (cut x lo hi)) else none
  | u => match asTup u with
    | some ds => some (if clip ds.length 0 lo = 0 ∧ clip ds.length ds.length hi = ds.length then u else .tup (cut ds lo hi))
    | none => none
/-- a[::-1] -/
def backD (a : D) (M : Store) : Option D := match rk M a with
  | .lst ds => some (.lst ds.reverse)
  | .str x => if x.length ≤ line then some (.str x.reverse) else none
  | _ => none
end DL
end
section
set_option Elab.async false
set_option linter.all false
set_option maxRecDepth 100000
/-! DL1: the small language and its evaluator. -/
namespace DL
open PySem

/-! ### the language -/
mutual
/-- told: f(lambda: b); thk: a(), a the def's parameter; call f pm es ks: f(es), then the keywords' values; pm: each parameter's value, the i-th written one or a default -/
inductive E where
  | c (d : D) | v (i : Nat) | g (i : Nat) | fn (i : Nat)
  | o1 (o : O1) (a : E) | o2 (o : O2) (a b : E) | sl (pl ph : Bool) (a lo hi : E) | back (a : E) | idx (t : Bool) (a b : E)
  | not (a : E) | and (a b : E) | or (a b : E) | ife (t a b : E) | chain (o o' : O2) (a b c : E)
  | tup (key : Bool) (es : Es) | lst (es : Es) | newl (es : Es) | lof (a : E) | newd (tk : Bool) (es : Es)
  | call (f : Nat) (pm : List (Sum Nat D)) (es ks : Es) | told (f : Nat) (b : E) | thk | wget (n : Nat) (a : E) | win (neg : Bool) (n : Nat) (a : E)
  | lc (mu : Bool) (own : List Nat) (t : T) (it : I) (cd : Es) (e : E) | dc (tk : Bool) (own : List Nat) (t : T) (it : I) (k v : E)
inductive Es where
  | nil | cons (e : E) (r : Es) | star (e : E) (r : Es)
/-- what is walked -/
inductive I where
  | seq (e : E) | rng1 (a : E) | rng2 (a b : E) | enm (e : E) | zip (a b : E) | enz (a b : E)
/-- a target: a name, a tuple of targets -/
inductive T where
  | nm (i : Nat) | tp (ts : Ts)
inductive Ts where
  | nil | cons (t : T) (r : Ts)
end
mutual
inductive S where
  | asg (t : T) (e : E) | par (is : List Nat) (es : Es) | sub (o i e : E) | sub2 (o i o' i' a b : E) | aug (i : Nat) (o : O2) (e : E)
  | ex (e : E) | app (o e : E) | ret (e : E) | retN
  | cond (t : E) (a b : Ss) | for_ (t : T) (it : I) (b : Ss) | while_ (t : E) (b : Ss)
  | raise (c : Nat) (es : Es) | try_ (b : Ss) (c i : Nat) (h : Ss) | pass | brk | cnt
inductive Ss where
  | nil | cons (s : S) (r : Ss)
end
instance : Inhabited E := ⟨.thk⟩
instance : Inhabited Ss := ⟨.nil⟩

/-! ### the evaluator -/
mutual
/-- a value stored to a target -/
def T.put : T → D → Env → Option Env
  | .nm i, d, ρ => some (ρ.set i (some d))
  | .tp ts, d, ρ => match d with
    | .tup ds => Ts.put ts ds ρ
    | .key ds => Ts.put ts ds ρ
    | _ => none
def Ts.put : Ts → List D → Env → Option Env
  | .nil, ds, ρ => if ds.isEmpty then some ρ else none
  | .cons t r, ds, ρ => match ds with
    | [] => none
    | d :: ds => match T.put t d ρ with
      | some ρ' => Ts.put r ds ρ'
      | none => none
end
/-- the slots forgotten -/
def wipeE (ρ : Env) : List Nat → Env
  | [] => ρ
  | i :: r => (wipeE ρ r).set i none
def ofO {α : Type} (o : Option α) (M : Store) : R α := match o with
  | some a => .ok a M
  | none => .no
/-- no exception leaves -/
def noEx {α : Type} (r : R α) : R α := match r with
  | .ok a M => .ok a M
  | _ => .no
def getV (ρ : Env) (i : Nat) (M : Store) : R D := match ρ[i]? with
  | some (some d) => .ok d M
  | _ => .no
def asB (d : D) (f : Bool → R D) : R D := match d with
  | .bl k => f k
  | _ => .no
/-- the end of a turn of a loop -/
def F.turn (a : F) (f : Env → Store → F) : F := match a with
  | .nx ρ M => f ρ M
  | .ct ρ M => f ρ M
  | .bk ρ M => .nx ρ M
  | .rt d M => .rt d M
  | .ex c ds ρ M => .ex c ds ρ M
  | .no => .no
/-- the list that is walked must stay: at n (none: a value) it is ds -/
def guard (g : Option Nat) (ds : List D) (M : Store) : Prop := match g with
  | none => True
  | some n => M[n]? = some (.lst ds)
open Classical in
noncomputable def loop (g : Option Nat) (all : List D) (f : D → Env → Store → F) : List D → Env → Store → F
  | [], ρ, M => if guard g all M then .nx ρ M else .no
  | x :: xs, ρ, M => if guard g all M then (f x ρ M).turn fun ρ' M' => loop g all f xs ρ' M' else .no
open Classical in
/-- a comprehension's turns: f gives the element, or none where a test fails -/
noncomputable def comp (g : Option Nat) (all : List D) (f : D → Store → R (Option D)) : List D → List D → Store → R (List D)
  | [], acc, M => if guard g all M then .ok acc M else .no
  | x :: xs, acc, M => if guard g all M ∧ acc.length < line then (noEx (f x M)).bind fun o M' => (match o with
    | some d => comp g all f xs (acc ++ [d]) M'
    | none => comp g all f xs acc M') else .no
open Classical in
noncomputable def dcomp (tk : Bool) (g : Option Nat) (all : List D) (f : D → Store → R (D × D)) : List D → List (D × D) → Store → R (List (D × D))
  | [], acc, M => if guard g all M then .ok acc M else .no
  | x :: xs, acc, M => if guard g all M ∧ acc.length < line then (noEx (f x M)).bind fun p M' => (if putOk tk p.1 = true then dcomp tk g all f xs (putKv acc p.1 p.2) M' else .no) else .no
def wloop (t : Env → Store → R Bool) (f : Env → Store → F) : Nat → Env → Store → F
  | 0, _, _ => .no
  | n + 1, ρ, M => (t ρ M).toF ρ fun k M1 => if k = true then (f ρ M1).turn fun ρ' M' => wloop t f n ρ' M' else .nx ρ M1
def turns : Nat := 1000000

def pick (vs : List D) : List (Sum Nat D) → Option (List D)
  | [] => some []
  | .inl i :: r => match vs[i]?, pick vs r with
    | some d, some ds => some (d :: ds)
    | _, _ => none
  | .inr d :: r => (pick vs r).map (d :: ·)
/-- the items that are walked, and the list of the store that they are -/
def walked (M : Store) (d : D) : Option (List D × Option Nat) := match d with
  | .tup ds => some (ds, none)
  | .key ds => some (ds, none)
  | .lst ds => some (ds, none)
  | .str x => if x.length ≤ line then some (letters x, none) else none
  | .ref n => match M[n]? with
    | some (.lst ds) => some (ds, some n)
    | _ => none
  | _ => none
def big (i : Int) : Bool := decide (-(2 ^ 62) ≤ i) && decide (i < 2 ^ 62)
def range (a b : Int) : List D := (List.range (b - a).toNat).map fun i => .int (a + (i : Nat))
def zipT (xs ys : List D) : List D := (xs.zip ys).map fun p => .key [p.1, p.2]
def numT (xs : List D) : List D := (xs.zipIdx).map fun p => .key [.int (p.2 : Nat), p.1]

def pairUp : List D → Option (List (D × D))
  | [] => some []
  | [_] => none
  | a :: b :: r => (pairUp r).map ((a, b) :: ·)
def callO (S : List D → Store → R D) (o : Option (List D)) (M : Store) : R D := match o with
  | some as => S as M
  | none => .no
def wgetD (w : List (List Nat × D)) (x : D) : Option D := match x with
  | .str s => w.lookup s
  | _ => none
def winD (neg : Bool) (w : List (List Nat × D)) (x : D) : Option D := match x with
  | .str s => some (.bl (if neg = true then !(w.lookup s).isSome else (w.lookup s).isSome))
  | _ => none
/-- what has the method index: a tuple that was made here, a list -/
def okR (t : Bool) (x : D) (M : Store) : Bool := if t = true then (match x with
  | .tup _ => true
  | _ => false) else (match rd M x with
  | .lst _ => true
  | _ => false)
/-- a list of the store -/
def isL (x : D) (M : Store) : Bool := match x with
  | .ref n => match M[n]? with
    | some (.lst _) => true
    | _ => false
  | _ => false
/-- a slice's bound: left out, or an int -/
def partB (p : Bool) (d : D) : Option (Option Int) := if p = true then (match d with
  | .int i => some (some i)
  | _ => none) else some none
structure Fns where
  /-- the defs, by their places -/
  S : Nat → List D → Store → R D
  /-- the defs that get a lambda -/
  T : Nat → (Store → R D) → Store → R D
  /-- the module's constants -/
  G : Nat → Option D
  /-- dicts of the module that stay -/
  Wd : Nat → List (List Nat × D)
  /-- what the def was handed -/
  th : Store → R D

mutual
noncomputable def ev (P : Fns) : E → Env → Store → R D
  | .c d, _, M => .ok d M
  | .v i, ρ, M => getV ρ i M
  | .g i, _, M => ofO (P.G i) M
  | .fn i, _, M => .ok (.fn i) M
  | .o1 o a, ρ, M => (ev P a ρ M).bind fun x M => ofO (ev1 o x M) M
  | .o2 o a b, ρ, M => (ev P a ρ M).bind fun x M => (ev P b ρ M).bind fun y M => ofO (ev2 o x y M) M
  | .sl pl ph a lo hi, ρ, M => (ev P a ρ M).bind fun x M => ((ev P lo ρ M).bind fun l M => ofO (partB pl l) M).bind fun l M => ((ev P hi ρ M).bind fun h M => ofO (partB ph h) M).bind fun h M => ofO (sliceI x l h M) M
  | .idx t a b, ρ, M => (ev P a ρ M).bind fun x M => if okR t x M = true then (ev P b ρ M).bind fun y M => ofO (ev2 (if t = true then .indexT else .index) x y M) M else .no
  | .back a, ρ, M => (ev P a ρ M).bind fun x M => ofO (backD x M) M
  | .not a, ρ, M => (ev P a ρ M).bind fun x M => (ofO (truth M x) M).bind fun k M => .ok (.bl (!k)) M
  | .and a b, ρ, M => (ev P a ρ M).bind fun x M => asB x fun k => if k = true then ev P b ρ M else .ok (.bl false) M
  | .or a b, ρ, M => (ev P a ρ M).bind fun x M => asB x fun k => if k = true then .ok (.bl true) M else ev P b ρ M
  | .ife t a b, ρ, M => (evB P t ρ M).bind fun k M => if k = true then ev P a ρ M else ev P b ρ M
  | .chain o o' a b c, ρ, M => (ev P a ρ M).bind fun x M => (ev P b ρ M).bind fun y M => (ofO (ev2 o x y M) M).bind fun r M => asB r fun k => if k = true then (ev P c ρ M).bind fun z M => ofO (ev2 o' y z M) M else .ok (.bl false) M
  | .tup key es, ρ, M => (evs P es ρ M).bind fun ds M => if ds.length ≤ line then .ok (if key = true then .key ds else .tup ds) M else .no
  | .lst es, ρ, M => (evs P es ρ M).bind fun ds M => if ds.length ≤ line then .ok (.lst ds) M else .no
  | .newl es, ρ, M => (evs P es ρ M).bind fun ds M => if ds.length ≤ line then .ok (.ref M.length) (M ++ [.lst ds]) else .no
  | .lof a, ρ, M => (ev P a ρ M).bind fun x M => match itemsOf M x with
    | some ds => .ok (.ref M.length) (M ++ [.lst ds])
    | none => .no
  | .newd tk es, ρ, M => (evs P es ρ M).bind fun ds M => match pairUp ds with
    | some ps => if ps.all (fun p => putOk tk p.1) = true ∧ ps.length ≤ 15 then .ok (.ref M.length) (M ++ [.dict tk (ps.foldl (fun m p => putKv m p.1 p.2) [])]) else .no
    | none => .no
  | .call f pm es ks, ρ, M => (evs P es ρ M).bind fun ds M => (evs P ks ρ M).bind fun zs M => callO (P.S f) (pick (ds ++ zs) pm) M
  | .told f b, ρ, M => P.T f (fun M' => ev P b ρ M') M
  | .thk, _, M => P.th M
  | .wget n a, ρ, M => (ev P a ρ M).bind fun x M => ofO (wgetD (P.Wd n) x) M
  | .win neg n a, ρ, M => (ev P a ρ M).bind fun x M => ofO (winD neg (P.Wd n) x) M
  | .lc mu own t it cd e, ρ, M => (evI P it ρ M).bind fun w M =>
      (comp w.2 w.1 (fun x M => match T.put t x (wipeE ρ own) with
        | some ρ' => (evC P cd ρ' M).bind fun k M => if k = true then (ev P e ρ' M).bind fun d M => .ok (some d) M else .ok none M
        | none => .no) w.1 [] M).bind fun ds M => if mu = true then .ok (.ref M.length) (M ++ [.lst ds]) else .ok (.lst ds) M
  | .dc tk own t it k v, ρ, M => (evI P it ρ M).bind fun w M =>
      (dcomp tk w.2 w.1 (fun x M => match T.put t x (wipeE ρ own) with
        | some ρ' => (ev P k ρ' M).bind fun a M => (ev P v ρ' M).bind fun b M => .ok (a, b) M
        | none => .no) w.1 [] M).bind fun kvs M => .ok (.ref M.length) (M ++ [.dict tk kvs])
/-- a test -/
noncomputable def evB (P : Fns) : E → Env → Store → R Bool
  | .not a, ρ, M => (evB P a ρ M).bind fun k M => .ok (!k) M
  | .and a b, ρ, M => (evB P a ρ M).bind fun k M => if k = true then evB P b ρ M else .ok false M
  | .or a b, ρ, M => (evB P a ρ M).bind fun k M => if k = true then .ok true M else evB P b ρ M
  | e, ρ, M => (ev P e ρ M).bind fun x M => ofO (truth M x) M
noncomputable def evs (P : Fns) : Es → Env → Store → R (List D)
  | .nil, _, M => .ok [] M
  | .cons e r, ρ, M => (ev P e ρ M).bind fun d M => (evs P r ρ M).bind fun ds M => .ok (d :: ds) M
  | .star e r, ρ, M => (ev P e ρ M).bind fun d M => match itemsOf M d with
    | some xs => (evs P r ρ M).bind fun ds M => .ok (xs ++ ds) M
    | none => .no
/-- all tests of a clause -/
noncomputable def evC (P : Fns) : Es → Env → Store → R Bool
  | .nil, _, M => .ok true M
  | .cons e r, ρ, M => (evB P e ρ M).bind fun k M => if k = true then evC P r ρ M else .ok false M
  | .star _ _, _, _ => .no
noncomputable def evI (P : Fns) : I → Env → Store → R (List D × Option Nat)
  | .seq e, ρ, M => (ev P e ρ M).bind fun d M => ofO (walked M d) M
  | .rng1 a, ρ, M => (ev P a ρ M).bind fun x M => match x with
    | .int i => if big i then .ok (range 0 i, none) M else .no
    | _ => .no
  | .rng2 a b, ρ, M => (ev P a ρ M).bind fun x M => (ev P b ρ M).bind fun y M => match x, y with
    | .int i, .int j => if big i && big j then .ok (range i j, none) M else .no
    | _, _ => .no
  | .enm e, ρ, M => (ev P e ρ M).bind fun d M => match d with
    | .lst ds => .ok (numT ds, none) M
    | d => match asTup d with
      | some ds => .ok (numT ds, none) M
      | none => .no
  | .zip a b, ρ, M => (ev P a ρ M).bind fun x M => (ev P b ρ M).bind fun y M => match x, y with
    | .lst ds, .lst es => .ok (zipT ds es, none) M
    | x, y => match asTup x, asTup y with
      | some ds, some es => .ok (zipT ds es, none) M
      | _, _ => .no
  | .enz a b, ρ, M => (ev P a ρ M).bind fun x M => (ev P b ρ M).bind fun y M => match asTup x, asTup y with
    | some ds, some es => .ok (numT (zipT ds es), none) M
    | _, _ => .no
end

/-- o.append(d) -/
def appD (o d : D) (M : Store) : Option Store := match o with
  | .ref n => match M[n]? with
    | some (.lst ds) => if ds.length < line then some (M.set n (.lst (ds ++ [d]))) else none
    | _ => none
  | _ => none
/-- o[i] = d -/
def subD (o i d : D) (M : Store) : Option Store := match o with
  | .ref n => match M[n]? with
    | some (.lst ds) => match i with
      | .int k => match place ds.length k with
        | some j => some (M.set n (.lst (ds.set j d)))
        | none => none
      | _ => none
    | some (.dict tk kvs) => if putOk tk i && decide (kvs.length < line) then some (M.set n (.dict tk (putKv kvs i d))) else none
    | _ => none
  | _ => none
def ofS (o : Option Store) (ρ : Env) : F := match o with
  | some M => .nx ρ M
  | none => .no
/-- several names stored at once -/
def setAll : List Nat → List D → Env → Option Env
  | [], [], ρ => some ρ
  | i :: is, d :: ds, ρ => setAll is ds (ρ.set i (some d))
  | _, _, _ => none
def F.catch_ (a : F) (f : Nat → List D → Env → Store → F) : F := match a with
  | .ex c ds ρ M => f c ds ρ M
  | .nx ρ M => .nx ρ M
  | .ct ρ M => .ct ρ M
  | .bk ρ M => .bk ρ M
  | .rt d M => .rt d M
  | .no => .no
/-- behind an except suite: the name is gone; nothing is raised within -/
def F.forget (a : F) (i : Nat) : F := match a with
  | .nx ρ M => .nx (ρ.set i none) M
  | .ct ρ M => .ct (ρ.set i none) M
  | .bk ρ M => .bk (ρ.set i none) M
  | .rt d M => .rt d M
  | .ex _ _ _ _ => .no
  | .no => .no
/-- the exceptions that a clause for class c takes: the classes under c -/
abbrev Under := Nat → Nat → Bool

mutual
noncomputable def exec (P : Fns) (u : Under) : S → Env → Store → F
  | .asg t e, ρ, M => (ev P e ρ M).toF ρ fun d M => match T.put t d ρ with
    | some ρ' => .nx ρ' M
    | none => .no
  | .par is es, ρ, M => (evs P es ρ M).toF ρ fun ds M => match setAll is ds ρ with
    | some ρ' => .nx ρ' M
    | none => .no
  | .sub o i e, ρ, M => (ev P e ρ M).toF ρ fun d M => (ev P o ρ M).toF ρ fun x M => (ev P i ρ M).toF ρ fun k M => ofS (subD x k d M) ρ
  | .sub2 o i o' i' a b, ρ, M => (ev P a ρ M).toF ρ fun da M => (ev P b ρ M).toF ρ fun db M =>
      (ev P o ρ M).toF ρ fun x M => (ev P i ρ M).toF ρ fun k M => match subD x k da M with
      | some M => (ev P o' ρ M).toF ρ fun x M => (ev P i' ρ M).toF ρ fun k M => ofS (subD x k db M) ρ
      | none => .no
  | .aug i o e, ρ, M => match ρ[i]? with
    | some (some x) => (ev P e ρ M).toF ρ fun y M => match ev2 o x y M with
      | some z => .nx (ρ.set i (some z)) M
      | none => .no
    | _ => .no
  | .ex e, ρ, M => (ev P e ρ M).toF ρ fun _ M => .nx ρ M
  | .app o e, ρ, M => (ev P o ρ M).toF ρ fun x M => if isL x M = true then (ev P e ρ M).toF ρ fun d M => ofS (appD x d M) ρ else .no
  | .ret e, ρ, M => (ev P e ρ M).toF ρ fun d M => .rt d M
  | .retN, _, M => .rt .non M
  | .cond t a b, ρ, M => (evB P t ρ M).toF ρ fun k M => if k = true then execs P u a ρ M else execs P u b ρ M
  | .for_ t it b, ρ, M => (evI P it ρ M).toF ρ fun w M => loop w.2 w.1 (fun x ρ M => match T.put t x ρ with
      | some ρ' => execs P u b ρ' M
      | none => .no) w.1 ρ M
  | .while_ t b, ρ, M => wloop (fun ρ M => evB P t ρ M) (fun ρ M => execs P u b ρ M) turns ρ M
  | .raise c es, ρ, M => (evs P es ρ M).toF ρ fun ds M => .ex c ds ρ M
  | .try_ b c i h, ρ, M => (execs P u b ρ M).catch_ fun c' ds ρ' M' =>
      if u c' c = true then (execs P u h (ρ'.set i (some (.exc c' ds))) M').forget i else .ex c' ds ρ' M'
  | .pass, ρ, M => .nx ρ M
  | .brk, ρ, M => .bk ρ M
  | .cnt, ρ, M => .ct ρ M
noncomputable def execs (P : Fns) (u : Under) : Ss → Env → Store → F
  | .nil, ρ, M => .nx ρ M
  | .cons s r, ρ, M => (exec P u s ρ M).seq fun ρ M => execs P u r ρ M
end
/-! ### the evaluator's equations -/
theorem ev_o1 (P : Fns) (o : O1) (a : E) : ev P (.o1 o a) = fun ρ M => (ev P a ρ M).bind fun x M => ofO (ev1 o x M) M := by
  funext ρ M
  rw [ev]
theorem ev_o2 (P : Fns) (o : O2) (a b : E) : ev P (.o2 o a b) = fun ρ M => (ev P a ρ M).bind fun x M => (ev P b ρ M).bind fun y M => ofO (ev2 o x y M) M := by
  funext ρ M
  rw [ev]
end DL
end
section
set_option Elab.async false
set_option linter.all false
set_option maxRecDepth 100000
set_option autoImplicit false
/-! DL2: what stands in the machine's heap for the data and the store; how a step of the machine follows the evaluator. -/
namespace DL
open PySem PySem.Spec PyProof.Rows L2 LamX

abbrev cs (x : List Nat) : Str := ⟨x.toArray⟩
/-- what is fixed for a whole law: the written part, the addresses of the defs, of the exceptions' classes and of own classes, their field names, the tables of code objects -/
structure Fix where
  K : PySem.W.Frag
  fa : Nat → Addr
  ca : Nat → Addr
  cf : Nat → List Str
  oa : Nat → Addr
  fn : Nat → Str
  TT : List (Addr × Str)

/-- the store's addresses, and lists that are being made -/
structure Ph where
  s : List Addr
  h : List Addr
def Ph.all (φ : Ph) : List Addr := φ.h ++ φ.s
def Ph.add (φ : Ph) (ν : List Addr) : Ph := ⟨φ.s ++ ν, φ.h⟩
/-- the heap without these objects -/
def out (φ : Ph) (H : Hp) : Hp := fun b => if b ∈ φ.all then none else H b
theorem out_some {φ : Ph} {H : Hp} {a : Addr} {o : HO} (h : out φ H a = some o) : a ∉ φ.all ∧ H a = some o := by
  unfold out at h
  split at h
  · cases h
  · exact ⟨by assumption, h⟩
theorem out_of {φ : Ph} {H : Hp} {a : Addr} {o : HO} (h : a ∉ φ.all) (e : H a = some o) : out φ H a = some o := by
  unfold out
  rw [if_neg h]
  exact e
/-- a caught exception: of class C, its own dict at d -/
def excH (a C d : Addr) : HO := .ext fun h => ∃ (oe : Obj) (vs : Array Value), h.get? a = some oe ∧ oe.cls = .ref C ∧ oe.dict = some d ∧ oe.data = .fields vs

/-- a tuple without a dict of its own: known to the object, or of the module -/
def TupN (K : PySem.W.Frag) (G : Hp) (a : Addr) (vs : List V) : Prop := (∃ o : Obj, G a = some (.frz o (.tup vs)) ∧ o.dict = none) ∨
  ∃ (o : Obj) (its : Array Value) (n : Nat), K.lookup a = some o ∧ o.cls = .type "tuple" ∧ o.dict = none ∧ o.data = .seq its n ∧ its.size ≤ sizeLine ∧ Vals vs its.toList
theorem TupN.sqT {K : PySem.W.Frag} {G : Hp} {a : Addr} {vs : List V} (h : TupN K G a vs) : SqT K G a vs := by
  rcases h with ⟨o, h, _⟩ | ⟨o, its, n, h1, h2, _, h3⟩
  · exact .inl (.inr ⟨o, h⟩)
  · exact .inr ⟨o, its, n, h1, h2, h3⟩
section
variable (Z : Fix)
mutual
/-- the value v is the data d; G: the heap outside the store -/
def Is (φ : Ph) (G : Hp) : D → V → Prop
  | .non, v => v = .non
  | .bl b, v => v = .bl b
  | .int i, v => v = .int i
  | .str x, v => v = .str (cs x) ∧ x.all (fun c => decide (c < 1114112)) = true
  | .tup ds, v => ∃ a vs, v = .ref a ∧ TupN Z.K G a vs ∧ Iss φ G ds vs
  | .lst ds, v => ∃ a vs, v = .ref a ∧ G a = some (.lst vs) ∧ Iss φ G ds vs
  | .scr ns, v => ∃ a, v = .ref a ∧ SqL Z.K G a (ns.map V.int)
  | .key ds, v => ∃ a vs, v = .ref a ∧ G a = some (.tup vs) ∧ Iss φ G ds vs
  | .ref n, v => ∃ a, v = .ref a ∧ φ.s[n]? = some a
  | .fn i, v => v = .ref (Z.fa i)
  | .ty n, v => v = .ty n
  | .exc c ds, v => ∃ a d vs, v = .ref a ∧ G a = some (excH a (Z.ca c) d) ∧ G d = some (.xd ((Z.cf c).zip vs).reverse) ∧ (Z.cf c).length = vs.length ∧ Iss φ G ds vs
def Iss (φ : Ph) (G : Hp) : List D → List V → Prop
  | [], vs => vs = []
  | d :: ds, vs => ∃ v r, vs = v :: r ∧ Is φ G d v ∧ Iss φ G ds r
end
/-- a key -/
def toKey : D → Option Key
  | .int i => some (.inl i)
  | .str x => some (.inr (cs x))
  | _ => none
def toKeys : List D → Option (List Key)
  | [] => some []
  | d :: ds => match toKey d, toKeys ds with
    | some k, some ks => some (k :: ks)
    | _, _ => none
def strOkD : D → Bool
  | .str x => x.all (fun c => decide (c < 1114112))
  | _ => true
def KIs (φ : Ph) (G : Hp) : List (D × D) → List (Key × V) → Prop
  | [], ws => ws = []
  | (k, d) :: r, ws => ∃ kk v ws', ws = (kk, v) :: ws' ∧ toKey k = some kk ∧ strOkD k = true ∧ Is Z φ G d v ∧ KIs φ G r ws'
def TIs (φ : Ph) (G : Hp) : List (D × D) → List (List Key × V) → Prop
  | [], ws => ws = []
  | (k, d) :: r, ws => ∃ ks kk v ws', ws = (kk, v) :: ws' ∧ k = .key ks ∧ toKeys ks = some kk ∧ ks.all strOkD = true ∧ Is Z φ G d v ∧ TIs φ G r ws'
def FIs (φ : Ph) (G : Hp) : List (Nat × D) → List (Str × V) → Prop
  | [], ws => ws = []
  | (k, d) :: r, ws => ∃ v ws', ws = (Z.fn k, v) :: ws' ∧ Is Z φ G d v ∧ FIs φ G r ws'
/-- an object of the store, at a -/
def IsO (φ : Ph) (G : Hp) (o : MO) (ho : HO) : Prop := match o with
  | .lst ds => ∃ vs, ho = .lst vs ∧ Iss Z φ G ds vs
  | .dict false kvs => ∃ ws, ho = .dK ws ∧ KIs Z φ G kvs ws
  | .dict true kvs => ∃ ws, ho = .dT ws ∧ TIs Z φ G kvs ws
  | .ins c fs => ∃ dx ws, ho = .ins (Z.oa c) dx ws ∧ FIs Z φ G fs ws
/-- no table of code objects -/
def NTb (o : HO) : Prop := match o with
  | .tbl _ => False
  | .ext _ => False
  | _ => True
/-- the store -/
structure RepM (φ : Ph) (M : Store) (H : Hp) : Prop where
  len : φ.s.length = M.length
  nd : φ.all.Nodup
  hid : ∀ a ∈ φ.h, ∃ o, H a = some o ∧ NTb o
  at_ : ∀ (n : Nat) (o : MO), M[n]? = some o → ∃ a ho, φ.s[n]? = some a ∧ H a = some ho ∧ IsO Z φ (out φ H) o ho
  tab : Tabs Z.TT (out φ H)
def RepE (φ : Ph) (G : Hp) (ρ : Env) (σ : L2.St) : Prop := ρ.length = σ.length ∧ ∀ (i : Nat) (d : D), ρ[i]? = some (some d) → ∃ v, σ[i]? = some (some v) ∧ Is Z φ G d v
structure At (φ : Ph) (ρ : Env) (M : Store) (σ : L2.St) (H : Hp) : Prop where
  m : RepM Z φ M H
  e : RepE Z φ (out φ H) ρ σ
/-- the machine went from φ, H to φ', H', where the store is M' -/
structure Step (φ : Ph) (H : Hp) (φ' : Ph) (H' : Hp) (M' : Store) : Prop where
  pre : ∃ ν, φ' = φ.add ν
  ext : ExtN (out φ H) (out φ' H')
  hid : ∀ a ∈ φ.h, H' a = H a
  m : RepM Z φ' M' H'
/-- an exception of class c with these fields -/
def IsX (φ : Ph) (G : Hp) (c : Nat) (ds : List D) (cls : Value) (dx : Option Addr) : Prop :=
  cls = .ref (Z.ca c) ∧ ∃ d vs, dx = some d ∧ G d = some (.xd ((Z.cf c).zip vs).reverse) ∧ (Z.cf c).length = vs.length ∧ Iss Z φ G ds vs

/-- what is wanted behind an expression: RA: how the result is borne -/
def post {α β : Type} (RA : Ph → Hp → α → β → Prop) (W : WX) (σ : L2.St) (φ : Ph) (H : Hp) (r : R α) (Q : β → Hp → Prop) : Prop := match r with
  | .ok a M' => ∀ φ' v H', Step Z φ H φ' H' M' → RA φ' (out φ' H') a v → Q v H'
  | .ex c ds M' => ∀ φ' cls dx H', Step Z φ H φ' H' M' → IsX Z φ' (out φ' H') c ds cls dx → W cls dx σ H'
  | .no => False
/-- .. behind a statement -/
def postS (W : WX) (φ : Ph) (H : Hp) (r : F) (E : Ends) : Prop := match r with
  | .nx ρ' M' => ∀ φ' σ' H', Step Z φ H φ' H' M' → RepE Z φ' (out φ' H') ρ' σ' → E.nx σ' H'
  | .bk ρ' M' => ∀ φ' σ' H', Step Z φ H φ' H' M' → RepE Z φ' (out φ' H') ρ' σ' → E.bk σ' H'
  | .ct ρ' M' => ∀ φ' σ' H', Step Z φ H φ' H' M' → RepE Z φ' (out φ' H') ρ' σ' → E.ct σ' H'
  | .rt d M' => ∀ φ' v H', Step Z φ H φ' H' M' → Is Z φ' (out φ' H') d v → E.rt v H'
  | .ex c ds ρ' M' => ∀ φ' cls dx σ' H', Step Z φ H φ' H' M' → RepE Z φ' (out φ' H') ρ' σ' → IsX Z φ' (out φ' H') c ds cls dx → W cls dx σ' H'
  | .no => False
def IsB (_ : Ph) (_ : Hp) (b : Bool) (v : Bool) : Prop := v = b
/-- the readings -/
def tE (W : WX) (f : Env → Store → R D) : TE := fun σ H Q => ∃ φ ρ M, At Z φ ρ M σ H ∧ post Z (Is Z) W σ φ H (f ρ M) Q
def tB (W : WX) (f : Env → Store → R Bool) : TT := fun σ H Q => ∃ φ ρ M, At Z φ ρ M σ H ∧ post Z IsB W σ φ H (f ρ M) Q
def tL (W : WX) (f : Env → Store → R (List D)) : TA := fun σ H Q => ∃ φ ρ M, At Z φ ρ M σ H ∧ post Z (Iss Z) W σ φ H (f ρ M) Q
def tS (W : WX) (f : Env → Store → F) : TS := fun E σ H => ∃ φ ρ M, At Z φ ρ M σ H ∧ postS Z W φ H (f ρ M) E
end

/-! ### how it is kept -/
section
variable {Z : Fix} {φ φ' : Ph} {G G' H H' : Hp} {M M' : Store}
theorem ExtN.rd {a : Addr} {u : HO} (e : ExtN G G') (n : ∀ ps, u ≠ .tbl ps) (h : Rd G a u) : Rd G' a u := by
  rcases h with h | ⟨o, h⟩
  · exact .inl (e _ _ h n)
  · exact .inr ⟨o, e _ _ h fun ps z => by cases z⟩
theorem ExtN.sqT {K : PySem.W.Frag} {a : Addr} {xs : List V} (e : ExtN G G') (h : SqT K G a xs) : SqT K G' a xs := by
  rcases h with h | h
  · exact .inl (ExtN.rd e (fun ps z => by cases z) h)
  · exact .inr h
theorem ExtN.sqL {K : PySem.W.Frag} {a : Addr} {xs : List V} (e : ExtN G G') (h : SqL K G a xs) : SqL K G' a xs := by
  rcases h with h | h
  · exact .inl (ExtN.rd e (fun ps z => by cases z) h)
  · exact .inr h
theorem ExtN.tupN {K : PySem.W.Frag} {a : Addr} {xs : List V} (e : ExtN G G') (h : TupN K G a xs) : TupN K G' a xs := by
  rcases h with ⟨o, h, d⟩ | h
  · exact .inl ⟨o, e _ _ h (fun ps z => by cases z), d⟩
  · exact .inr h
theorem sqT_out {K : PySem.W.Frag} {a : Addr} {xs : List V} (h : SqT K (out φ H) a xs) : SqT K H a xs := by
  rcases h with (h | ⟨o, h⟩) | h
  · exact .inl (.inl (out_some h).2)
  · exact .inl (.inr ⟨o, (out_some h).2⟩)
  · exact .inr h
theorem sqL_out {K : PySem.W.Frag} {a : Addr} {xs : List V} (h : SqL K (out φ H) a xs) : SqL K H a xs := by
  rcases h with (h | ⟨o, h⟩) | h
  · exact .inl (.inl (out_some h).2)
  · exact .inl (.inr ⟨o, (out_some h).2⟩)
  · exact .inr h
mutual
theorem Is.mono {ν : List Addr} (e : ExtN G G') : ∀ (d : D) (v : V), Is Z φ G d v → Is Z (φ.add ν) G' d v
  | .non, v, h => by simpa only [Is] using h
  | .bl b, v, h => by simpa only [Is] using h
  | .int i, v, h => by simpa only [Is] using h
  | .str x, v, h => by simpa only [Is] using h
  | .fn i, v, h => by simpa only [Is] using h
  | .ty n, v, h => by simpa only [Is] using h
  | .ref n, v, h => by
    simp only [Is] at h ⊢
    obtain ⟨a, h1, h2⟩ := h
    refine ⟨a, h1, ?_⟩
    show (φ.s ++ ν)[n]? = some a
    rw [List.getElem?_append_left (List.getElem?_eq_some_iff.mp h2).1]
    exact h2
  | .tup ds, v, h => by
    simp only [Is] at h ⊢
    obtain ⟨a, vs, h1, h2, h3⟩ := h
    exact ⟨a, vs, h1, ExtN.tupN e h2, Iss.mono e ds vs h3⟩
  | .lst ds, v, h => by
    simp only [Is] at h ⊢
    obtain ⟨a, vs, h1, h2, h3⟩ := h
    exact ⟨a, vs, h1, e _ _ h2 (fun ps z => by cases z), Iss.mono e ds vs h3⟩
  | .scr ns, v, h => by
    simp only [Is] at h ⊢
    obtain ⟨a, h1, h2⟩ := h
    exact ⟨a, h1, ExtN.sqL e h2⟩
  | .key ds, v, h => by
    simp only [Is] at h ⊢
    obtain ⟨a, vs, h1, h2, h3⟩ := h
    exact ⟨a, vs, h1, e _ _ h2 (fun ps z => by cases z), Iss.mono e ds vs h3⟩
  | .exc c ds, v, h => by
    simp only [Is] at h ⊢
    obtain ⟨a, d, vs, h1, h2, h3, h4, h5⟩ := h
    exact ⟨a, d, vs, h1, e _ _ h2 (fun ps z => by unfold excH at z; cases z), e _ _ h3 (fun ps z => by cases z), h4, Iss.mono e ds vs h5⟩
theorem Iss.mono {ν : List Addr} (e : ExtN G G') : ∀ (ds : List D) (vs : List V), Iss Z φ G ds vs → Iss Z (φ.add ν) G' ds vs
  | [], vs, h => by simpa only [Iss] using h
  | d :: ds, vs, h => by
    simp only [Iss] at h ⊢
    obtain ⟨v, r, h1, h2, h3⟩ := h
    exact ⟨v, r, h1, Is.mono e d v h2, Iss.mono e ds r h3⟩
end
theorem Step.is {d : D} {v : V} (s : Step Z φ H φ' H' M') (h : Is Z φ (out φ H) d v) : Is Z φ' (out φ' H') d v := by
  obtain ⟨ν, rfl⟩ := s.pre
  exact Is.mono s.ext d v h
theorem Step.iss {ds : List D} {vs : List V} (s : Step Z φ H φ' H' M') (h : Iss Z φ (out φ H) ds vs) : Iss Z φ' (out φ' H') ds vs := by
  obtain ⟨ν, rfl⟩ := s.pre
  exact Iss.mono s.ext ds vs h
theorem Step.repE {ρ : Env} {σ : L2.St} (s : Step Z φ H φ' H' M') (h : RepE Z φ (out φ H) ρ σ) : RepE Z φ' (out φ' H') ρ σ :=
  ⟨h.1, fun i d e => let ⟨v, h1, h2⟩ := h.2 i d e; ⟨v, h1, s.is h2⟩⟩
theorem Step.at_ {ρ : Env} {σ : L2.St} (s : Step Z φ H φ' H' M') (h : At Z φ ρ M σ H) : At Z φ' ρ M' σ H' := ⟨s.m, s.repE h.e⟩
theorem Step.refl (m : RepM Z φ M H) : Step Z φ H φ H M := ⟨⟨[], by simp [Ph.add]⟩, ExtN.refl _, fun _ _ => rfl, m⟩
theorem Step.trans {φ2 : Ph} {H2 : Hp} {M2 : Store} (a : Step Z φ H φ' H' M') (b : Step Z φ' H' φ2 H2 M2) : Step Z φ H φ2 H2 M2 := by
  obtain ⟨ν, rfl⟩ := a.pre
  obtain ⟨ν', rfl⟩ := b.pre
  exact ⟨⟨ν ++ ν', by simp [Ph.add]⟩, a.ext.trans b.ext, fun x hx => (b.hid x hx).trans (a.hid x hx), b.m⟩
section
variable {α β : Type} {RA : Ph → Hp → α → β → Prop} {W : WX} {σ : L2.St}
theorem post.rebase {r : R α} {Q : β → Hp → Prop} (s : Step Z φ H φ' H' M') (h : post Z RA W σ φ H r Q) : post Z RA W σ φ' H' r Q := by
  cases r with
  | ok a M2 => exact fun φ2 v H2 s2 i => h φ2 v H2 (s.trans s2) i
  | ex c ds M2 => exact fun φ2 cls dx H2 s2 i => h φ2 cls dx H2 (s.trans s2) i
  | no => exact h
theorem postS.rebase {r : F} {E : Ends} (s : Step Z φ H φ' H' M') (h : postS Z W φ H r E) : postS Z W φ' H' r E := by
  cases r with
  | nx ρ M2 => exact fun φ2 σ2 H2 s2 i => h φ2 σ2 H2 (s.trans s2) i
  | bk ρ M2 => exact fun φ2 σ2 H2 s2 i => h φ2 σ2 H2 (s.trans s2) i
  | ct ρ M2 => exact fun φ2 σ2 H2 s2 i => h φ2 σ2 H2 (s.trans s2) i
  | rt d M2 => exact fun φ2 v H2 s2 i => h φ2 v H2 (s.trans s2) i
  | ex c ds ρ M2 => exact fun φ2 cls dx σ2 H2 s2 i => h φ2 cls dx σ2 H2 (s.trans s2) i
  | no => exact h
/-- one part, then the rest -/
theorem post.bind {α' β' : Type} {RB : Ph → Hp → α' → β' → Prop} {r : R α} {f : α → Store → R α'} {Q : β' → Hp → Prop} (h : post Z RB W σ φ H (r.bind f) Q) :
    post Z RA W σ φ H r fun x H1 => ∃ φ1 M1 a, Step Z φ H φ1 H1 M1 ∧ RA φ1 (out φ1 H1) a x ∧ post Z RB W σ φ1 H1 (f a M1) Q := by
  cases r with
  | ok a M1 => exact fun φ1 v H1 s i => ⟨φ1, M1, a, s, i, post.rebase s h⟩
  | ex c ds M1 => exact h
  | no => exact h
theorem post.toF {ρ : Env} {r : R α} {f : α → Store → F} {E : Ends} (e : RepE Z φ (out φ H) ρ σ) (h : postS Z W φ H (r.toF ρ f) E) :
    post Z RA W σ φ H r fun x H1 => ∃ φ1 M1 a, Step Z φ H φ1 H1 M1 ∧ RA φ1 (out φ1 H1) a x ∧ postS Z W φ1 H1 (f a M1) E := by
  cases r with
  | ok a M1 => exact fun φ1 v H1 s i => ⟨φ1, M1, a, s, i, postS.rebase s h⟩
  | ex c ds M1 => exact fun φ1 cls dx H1 s i => h φ1 cls dx σ H1 s (s.repE e) i
  | no => exact h
theorem post.mono {r : R α} {Q Q' : β → Hp → Prop} (h : post Z RA W σ φ H r Q) (k : ∀ x H', Q x H' → Q' x H') : post Z RA W σ φ H r Q' := by
  cases r with
  | ok a M1 => exact fun φ1 v H1 s i => k _ _ (h φ1 v H1 s i)
  | ex c ds M1 => exact h
  | no => exact h
end
/-- the reading of one part, from the reading of the whole -/
theorem tE.bind {W : WX} {σ : L2.St} {α' β' : Type} {RB : Ph → Hp → α' → β' → Prop} {ρ : Env} {fa : Env → Store → R D} {f : D → Store → R α'} {Q : β' → Hp → Prop} (a : At Z φ ρ M σ H) (h : post Z RB W σ φ H ((fa ρ M).bind f) Q) :
    tE Z W fa σ H fun x H1 => ∃ φ1 M1 d, At Z φ1 ρ M1 σ H1 ∧ Step Z φ H φ1 H1 M1 ∧ Is Z φ1 (out φ1 H1) d x ∧ post Z RB W σ φ1 H1 (f d M1) Q :=
  ⟨φ, ρ, M, a, (post.bind (RA := Is Z) h).mono fun x H1 ⟨φ1, M1, d, s, i, q⟩ => ⟨φ1, M1, d, s.at_ a, s, i, q⟩⟩
theorem tB.bind {W : WX} {σ : L2.St} {α' β' : Type} {RB : Ph → Hp → α' → β' → Prop} {ρ : Env} {fa : Env → Store → R Bool} {f : Bool → Store → R α'} {Q : β' → Hp → Prop} (a : At Z φ ρ M σ H) (h : post Z RB W σ φ H ((fa ρ M).bind f) Q) :
    tB Z W fa σ H fun x H1 => ∃ φ1 M1, At Z φ1 ρ M1 σ H1 ∧ Step Z φ H φ1 H1 M1 ∧ post Z RB W σ φ1 H1 (f x M1) Q :=
  ⟨φ, ρ, M, a, (post.bind (RA := IsB) h).mono fun x H1 ⟨φ1, M1, d, s, i, q⟩ => by
    cases (show x = d from i)
    exact ⟨φ1, M1, s.at_ a, s, q⟩⟩
theorem tL.bind {W : WX} {σ : L2.St} {α' β' : Type} {RB : Ph → Hp → α' → β' → Prop} {ρ : Env} {fa : Env → Store → R (List D)} {f : List D → Store → R α'} {Q : β' → Hp → Prop} (a : At Z φ ρ M σ H) (h : post Z RB W σ φ H ((fa ρ M).bind f) Q) :
    tL Z W fa σ H fun xs H1 => ∃ φ1 M1 ds, At Z φ1 ρ M1 σ H1 ∧ Step Z φ H φ1 H1 M1 ∧ Iss Z φ1 (out φ1 H1) ds xs ∧ post Z RB W σ φ1 H1 (f ds M1) Q :=
  ⟨φ, ρ, M, a, (post.bind (RA := Iss Z) h).mono fun x H1 ⟨φ1, M1, d, s, i, q⟩ => ⟨φ1, M1, d, s.at_ a, s, i, q⟩⟩
theorem tE.toF {W : WX} {σ : L2.St} {ρ : Env} {fa : Env → Store → R D} {f : D → Store → F} {E : Ends} (a : At Z φ ρ M σ H) (h : postS Z W φ H ((fa ρ M).toF ρ f) E) :
    tE Z W fa σ H fun x H1 => ∃ φ1 M1 d, At Z φ1 ρ M1 σ H1 ∧ Step Z φ H φ1 H1 M1 ∧ Is Z φ1 (out φ1 H1) d x ∧ postS Z W φ1 H1 (f d M1) E :=
  ⟨φ, ρ, M, a, (post.toF (RA := Is Z) a.e h).mono fun x H1 ⟨φ1, M1, d, s, i, q⟩ => ⟨φ1, M1, d, s.at_ a, s, i, q⟩⟩
theorem tB.toF {W : WX} {σ : L2.St} {ρ : Env} {fa : Env → Store → R Bool} {f : Bool → Store → F} {E : Ends} (a : At Z φ ρ M σ H) (h : postS Z W φ H ((fa ρ M).toF ρ f) E) :
    tB Z W fa σ H fun x H1 => ∃ φ1 M1, At Z φ1 ρ M1 σ H1 ∧ Step Z φ H φ1 H1 M1 ∧ postS Z W φ1 H1 (f x M1) E :=
  ⟨φ, ρ, M, a, (post.toF (RA := IsB) a.e h).mono fun x H1 ⟨φ1, M1, d, s, i, q⟩ => by
    cases (show x = d from i)
    exact ⟨φ1, M1, s.at_ a, s, q⟩⟩
theorem tL.toF {W : WX} {σ : L2.St} {ρ : Env} {fa : Env → Store → R (List D)} {f : List D → Store → F} {E : Ends} (a : At Z φ ρ M σ H) (h : postS Z W φ H ((fa ρ M).toF ρ f) E) :
    tL Z W fa σ H fun xs H1 => ∃ φ1 M1 ds, At Z φ1 ρ M1 σ H1 ∧ Step Z φ H φ1 H1 M1 ∧ Iss Z φ1 (out φ1 H1) ds xs ∧ postS Z W φ1 H1 (f ds M1) E :=
  ⟨φ, ρ, M, a, (post.toF (RA := Iss Z) a.e h).mono fun x H1 ⟨φ1, M1, d, s, i, q⟩ => ⟨φ1, M1, d, s.at_ a, s, i, q⟩⟩
/-- the end: a value as it stands -/
theorem post.fin {α β : Type} {RA : Ph → Hp → α → β → Prop} {W : WX} {σ : L2.St} {a : α} {v : β} {Q : β → Hp → Prop} (h : post Z RA W σ φ H (.ok a M) Q) (m : RepM Z φ M H) (i : RA φ (out φ H) a v) : Q v H := h φ v H (Step.refl m) i
end

/-! ### rules for HandS's judgements -/
section
variable {X : Cx}
theorem PE.imp {e : Expr} {t t' : TE} (h : PE X e t) (k : ∀ σ H Q, t' σ H Q → t σ H Q) : PE X e t' := ⟨fun pins s σ H Q I q => h.run pins s σ H Q I (k σ H Q q)⟩
theorem PT.imp {e : Expr} {t t' : TT} (h : PT X e t) (k : ∀ σ H Q, t' σ H Q → t σ H Q) : PT X e t' := ⟨fun pins s σ H Q I q => h.run pins s σ H Q I (k σ H Q q)⟩
theorem PA.imp {e : List Expr} {t t' : TA} (h : PA X e t) (k : ∀ σ H Q, t' σ H Q → t σ H Q) : PA X e t' := ⟨fun pos pins s σ H Q I q => h.run pos pins s σ H Q I (k σ H Q q)⟩
theorem PS.imp {e : Stmt} {t t' : TS} (h : PS X e t) (k : ∀ E σ H, t' E σ H → t E σ H) : PS X e t' := ⟨fun pins s σ H E I q => h.run pins s σ H E I (k E σ H q)⟩
theorem PSs.imp {e : List Stmt} {t t' : TS} (h : PSs X e t) (k : ∀ E σ H, t' E σ H → t E σ H) : PSs X e t' := ⟨fun pins s σ H E I q => h.run pins s σ H E I (k E σ H q)⟩
theorem OpR.imp {f : Value → Value → Sem Value} {r r' : R2} (h : OpR X f r) (k : ∀ x y H Q, r' x y H Q → r x y H Q) : OpR X f r' := fun pins s σ H x y v u Q I rx ry q => h pins s σ H x y v u Q I rx ry (k x y H Q q)
theorem CallR.imp {f : Value} {r r' : List V → Hp → VK → Prop} (h : CallR X f r) (k : ∀ xs H Q, r' xs H Q → r xs H Q) : CallR X f r' := fun pins s σ H xs us Q I rx q => h pins s σ H xs us Q I rx (k xs H Q q)
theorem UnR.imp {f : Value → Sem Value} {r r' : V → Hp → VK → Prop} (h : UnR X f r) (k : ∀ x H Q, r' x H Q → r x H Q) : UnR X f r' := fun pins s σ H x v Q I rx q => h pins s σ H x v Q I rx (k x H Q q)
theorem IxR.imp {r r' : R2} (h : IxR X r) (k : ∀ x y H Q, r' x y H Q → r x y H Q) : IxR X r' := fun value slice pins s σ H x y v u Q I rx ry q hs => h value slice pins s σ H x y v u Q I rx ry (k x y H Q q) hs
theorem MtR.imp {id : String} {r r' : V → List V → Hp → VK → Prop} (h : MtR X id r) (k : ∀ x xs H Q, r' x xs H Q → r x xs H Q) : MtR X id r' := fun pins s σ H x xs v us Q I rx rxs q => h pins s σ H x xs v us Q I rx rxs (k x xs H Q q)
theorem SlR.imp {r r' : V → Option Int → Option Int → Hp → VK → Prop} (h : SlR X r) (k : ∀ x l u H Q, r' x l u H Q → r x l u H Q) : SlR X r' := fun pins s σ H x v vl vu lo hi sl Q I rx hs pl pu q => h pins s σ H x v vl vu lo hi sl Q I rx hs pl pu (k x lo hi H Q q)
end
end DL
end
section
set_option Elab.async false
set_option linter.all false
set_option maxRecDepth 100000
set_option autoImplicit false
set_option maxHeartbeats 4000000
/-! DL3: the operations on values follow the machine's. -/
namespace DL
open PySem PySem.Spec PyProof.Rows L2 LamX

section
variable {Z : Fix} {φ φ' : Ph} {G G' H H' : Hp} {M M' : Store} {α β : Type} {RA : Ph → Hp → α → β → Prop} {W : WX} {σ : L2.St}

theorem line_eq : line = sizeLine := by rw [sizeLine_eq]; rfl
theorem RepM.mem (m : RepM Z φ M H) {a : Addr} (h : a ∈ φ.all) : ∃ o, H a = some o := by
  rcases List.mem_append.mp h with h | h
  · exact let ⟨o, e, _⟩ := m.hid a h; ⟨o, e⟩
  obtain ⟨n, hn, e⟩ := List.getElem_of_mem h
  obtain ⟨b, ho, h1, h2, _⟩ := m.at_ n (M[n]'(by rw [← m.len]; exact hn)) (by simp)
  rw [List.getElem?_eq_getElem hn, e] at h1
  cases h1
  exact ⟨ho, h2⟩
theorem RepM.fresh (m : RepM Z φ M H) {p : Addr} (h : H p = none) : p ∉ φ.all := fun z => by
  obtain ⟨o, e⟩ := m.mem z
  rw [h] at e
  cases e
theorem RepM.lst (m : RepM Z φ M H) {n : Nat} {a : Addr} {ds : List D} (e : M[n]? = some (.lst ds)) (h : φ.s[n]? = some a) : ∃ vs, H a = some (.lst vs) ∧ Iss Z φ (out φ H) ds vs := by
  obtain ⟨b, ho, h1, h2, vs, h3, h4⟩ := m.at_ n _ e
  rw [h] at h1
  cases h1
  exact ⟨vs, by rw [h2, h3], h4⟩
theorem step_new (m : RepM Z φ M H) {p : Addr} {o : HO} (hp : H p = none) : Step Z φ H φ (upd H p o) M := by
  have np : p ∉ φ.all := m.fresh hp
  have ext : ExtN (out φ H) (out φ (upd H p o)) := fun b u e _ => by
    obtain ⟨h1, h2⟩ := out_some e
    exact out_of h1 (by rw [upd_ne (ne_of_none h2 hp)]; exact h2)
  have ext' : ∀ b u, out φ H b = some u → out φ (upd H p o) b = some u := fun b u e => by
    obtain ⟨h1, h2⟩ := out_some e
    exact out_of h1 (by rw [upd_ne (ne_of_none h2 hp)]; exact h2)
  have e0 : φ = φ.add [] := by simp [Ph.add]
  have mono : ∀ d v, Is Z φ (out φ H) d v → Is Z φ (out φ (upd H p o)) d v := fun d v h => by rw [e0]; exact Is.mono (ν := []) (by rw [← e0]; exact ext) d v h
  have monos : ∀ ds vs, Iss Z φ (out φ H) ds vs → Iss Z φ (out φ (upd H p o)) ds vs := fun d v h => by rw [e0]; exact Iss.mono (ν := []) (by rw [← e0]; exact ext) d v h
  have kmono : ∀ kvs ws, KIs Z φ (out φ H) kvs ws → KIs Z φ (out φ (upd H p o)) kvs ws := by
    intro kvs
    induction kvs with
    | nil => exact fun ws h => h
    | cons q r ih =>
      obtain ⟨k, d⟩ := q
      rintro ws ⟨kk, v, ws', h1, h2, h3, h4, h5⟩
      exact ⟨kk, v, ws', h1, h2, h3, mono d v h4, ih ws' h5⟩
  have tmono : ∀ kvs ws, TIs Z φ (out φ H) kvs ws → TIs Z φ (out φ (upd H p o)) kvs ws := by
    intro kvs
    induction kvs with
    | nil => exact fun ws h => h
    | cons q r ih =>
      obtain ⟨k, d⟩ := q
      rintro ws ⟨ks, kk, v, ws', h1, h2, h3, h4, h5, h6⟩
      exact ⟨ks, kk, v, ws', h1, h2, h3, h4, mono d v h5, ih ws' h6⟩
  have fmono : ∀ kvs ws, FIs Z φ (out φ H) kvs ws → FIs Z φ (out φ (upd H p o)) kvs ws := by
    intro kvs
    induction kvs with
    | nil => exact fun ws h => h
    | cons q r ih =>
      obtain ⟨k, d⟩ := q
      rintro ws ⟨v, ws', h1, h2, h3⟩
      exact ⟨v, ws', h1, mono d v h2, ih ws' h3⟩
  refine ⟨⟨[], e0⟩, ext, fun a ha => upd_ne fun e => np (List.mem_append_left _ (e ▸ ha)), m.len, m.nd, fun a ha => ?_, fun n u e => ?_, m.tab.ext ext'⟩
  · obtain ⟨u, e, nt⟩ := m.hid a ha
    exact ⟨u, by rw [upd_ne (ne_of_none e hp)]; exact e, nt⟩
  obtain ⟨a, ho, h1, h2, h3⟩ := m.at_ n u e
  refine ⟨a, ho, h1, by rw [upd_ne (ne_of_none h2 hp)]; exact h2, ?_⟩
  cases u with
  | lst ds =>
    obtain ⟨vs, e1, e2⟩ := h3
    exact ⟨vs, e1, monos _ _ e2⟩
  | dict tk kvs =>
    cases tk with
    | false =>
      obtain ⟨ws, e1, e2⟩ := h3
      exact ⟨ws, e1, kmono _ _ e2⟩
    | true =>
      obtain ⟨ws, e1, e2⟩ := h3
      exact ⟨ws, e1, tmono _ _ e2⟩
  | ins c fs =>
    obtain ⟨dx, ws, e1, e2⟩ := h3
    exact ⟨dx, ws, e1, fmono _ _ e2⟩
/-- a new list, a new tuple, as a value -/
theorem post.newL {ds : List D} {vs : List V} {Q : VK} (h : post Z (Is Z) W σ φ H (.ok (.lst ds) M) Q) (m : RepM Z φ M H) (i : Iss Z φ (out φ H) ds vs) : ∀ p, H p = none → Q (.ref p) (upd H p (.lst vs)) := fun p hp => by
  have s := step_new (o := .lst vs) m hp
  refine h φ _ _ s ?_
  simp only [Is]
  exact ⟨p, vs, rfl, out_of (m.fresh hp) upd_same, s.iss i⟩
theorem post.newT {ds : List D} {vs : List V} {Q : VK} (h : post Z (Is Z) W σ φ H (.ok (.tup ds) M) Q) (m : RepM Z φ M H) (i : Iss Z φ (out φ H) ds vs) : ∀ p o, H p = none → o.dict = none → Q (.ref p) (upd H p (.frz o (.tup vs))) := fun p o hp hd => by
  have s := step_new (o := .frz o (.tup vs)) m hp
  refine h φ _ _ s ?_
  simp only [Is]
  exact ⟨p, vs, rfl, .inl ⟨o, out_of (m.fresh hp) upd_same, hd⟩, s.iss i⟩
theorem post.newK {ds : List D} {vs : List V} {Q : VK} (h : post Z (Is Z) W σ φ H (.ok (.key ds) M) Q) (m : RepM Z φ M H) (i : Iss Z φ (out φ H) ds vs) : ∀ p, H p = none → Q (.ref p) (upd H p (.tup vs)) := fun p hp => by
  have s := step_new (o := .tup vs) m hp
  refine h φ _ _ s ?_
  simp only [Is]
  exact ⟨p, vs, rfl, out_of (m.fresh hp) upd_same, s.iss i⟩
theorem post.int {n : Int} {Q : VK} (h : post Z (Is Z) W σ φ H (.ok (.int n) M) Q) (m : RepM Z φ M H) : Q (.int n) H := h.fin m (by simp only [Is])
theorem post.bl {b : Bool} {Q : VK} (h : post Z (Is Z) W σ φ H (.ok (.bl b) M) Q) (m : RepM Z φ M H) : Q (.bl b) H := h.fin m (by simp only [Is])
theorem post.str {x : List Nat} {Q : VK} (h : post Z (Is Z) W σ φ H (.ok (.str x) M) Q) (m : RepM Z φ M H) (e : x.all (fun c => decide (c < 1114112)) = true) : Q (.str (cs x)) H := h.fin m (by rw [Is]; exact ⟨rfl, e⟩)

theorem rd_lst {n : Nat} {ds : List D} (e : M[n]? = some (.lst ds)) : rd M (.ref n) = .lst ds := by
  show rdR n M[n]? = _
  rw [e]
  rfl
theorem rd_no {n : Nat} (e : ∀ ds, M[n]? ≠ some (.lst ds)) : rd M (.ref n) = .ref n := by
  show rdR n M[n]? = _
  cases q : M[n]? with
  | none => rfl
  | some o =>
    cases o with
    | lst ds => exact absurd q (e ds)
    | dict _ _ => rfl
    | ins _ _ => rfl
theorem rd_two (n : Nat) : (∃ ds, M[n]? = some (.lst ds)) ∨ ∀ ds, M[n]? ≠ some (.lst ds) := by
  by_cases h : ∃ ds, M[n]? = some (.lst ds)
  · exact .inl h
  · exact .inr fun ds e => h ⟨ds, e⟩
theorem rv_int (m : RepM Z φ M H) {d : D} {v : V} {i : Int} (h : Is Z φ (out φ H) d v) (e : rd M d = .int i) : v = .int i := by
  cases d with
  | ref n =>
    rcases rd_two (M := M) n with ⟨ds, q⟩ | q
    · rw [rd_lst q] at e; cases e
    · rw [rd_no q] at e; cases e
  | int j =>
    cases e
    rw [Is] at h
    exact h
  | _ => cases e
theorem rv_str (m : RepM Z φ M H) {d : D} {v : V} {x : List Nat} (h : Is Z φ (out φ H) d v) (e : rd M d = .str x) : v = .str (cs x) ∧ x.all (fun c => decide (c < 1114112)) = true := by
  cases d with
  | ref n =>
    rcases rd_two (M := M) n with ⟨ds, q⟩ | q
    · rw [rd_lst q] at e; cases e
    · rw [rd_no q] at e; cases e
  | str j =>
    cases e
    rw [Is] at h
    exact h
  | _ => cases e
theorem rv_tup (m : RepM Z φ M H) {d : D} {v : V} {ds : List D} (h : Is Z φ (out φ H) d v) (e : rd M d = .tup ds) : ∃ a vs, v = .ref a ∧ TupN Z.K (out φ H) a vs ∧ Iss Z φ (out φ H) ds vs := by
  cases d with
  | ref n =>
    rcases rd_two (M := M) n with ⟨ds, q⟩ | q
    · rw [rd_lst q] at e; cases e
    · rw [rd_no q] at e; cases e
  | tup j =>
    cases e
    rw [Is] at h
    exact h
  | _ => cases e
theorem rv_key (m : RepM Z φ M H) {d : D} {v : V} {ds : List D} (h : Is Z φ (out φ H) d v) (e : rd M d = .key ds) : ∃ a vs, v = .ref a ∧ out φ H a = some (.tup vs) ∧ Iss Z φ (out φ H) ds vs := by
  cases d with
  | ref n =>
    rcases rd_two (M := M) n with ⟨ds, q⟩ | q
    · rw [rd_lst q] at e; cases e
    · rw [rd_no q] at e; cases e
  | key j =>
    cases e
    rw [Is] at h
    exact h
  | _ => cases e
theorem rk_tup {d : D} {ds : List D} (e : rk M d = .tup ds) : rd M d = .tup ds ∨ rd M d = .key ds := by
  unfold rk at e
  split at e
  · rename_i q
    cases e
    exact .inr q
  · exact .inl e
theorem rk_ne {d x : D} (e : rk M d = x) (h : ∀ ds, x ≠ .tup ds) : rd M d = x := by
  unfold rk at e
  split at e
  · exact absurd e.symm (h _)
  · exact e
theorem rv_tupK (m : RepM Z φ M H) {d : D} {v : V} {ds : List D} (h : Is Z φ (out φ H) d v) (e : rk M d = .tup ds) : ∃ a vs, v = .ref a ∧ SqT Z.K (out φ H) a vs ∧ Iss Z φ (out φ H) ds vs := by
  rcases rk_tup e with e | e
  · obtain ⟨a, vs, h1, h2, h3⟩ := rv_tup m h e
    exact ⟨a, vs, h1, h2.sqT, h3⟩
  · obtain ⟨a, vs, h1, h2, h3⟩ := rv_key m h e
    exact ⟨a, vs, h1, SqT.of h2, h3⟩
theorem asTup_rd {d : D} {ds : List D} (e : asTup (rd M d) = some ds) : rk M d = .tup ds := by
  unfold rk
  split
  · rename_i q
    rw [q] at e
    cases e
    rfl
  · rename_i q
    cases z : rd M d with
    | tup es => rw [z] at e; cases e; rfl
    | key es => exact absurd z (q es)
    | _ => rw [z] at e; cases e
/-- a tuple of either kind is not a list of the store -/
theorem asTup_same {d : D} {ds : List D} (e : asTup (rd M d) = some ds) : rd M d = d := by
  cases d with
  | ref n =>
    rcases rd_two (M := M) n with ⟨ds, q⟩ | q
    · rw [rd_lst q] at e; cases e
    · rw [rd_no q] at e; cases e
  | _ => rfl
theorem rv_intK (m : RepM Z φ M H) {d : D} {v : V} {i : Int} (h : Is Z φ (out φ H) d v) (e : rk M d = .int i) : v = .int i := rv_int m h (rk_ne e fun _ q => by cases q)
theorem rv_strK (m : RepM Z φ M H) {d : D} {v : V} {x : List Nat} (h : Is Z φ (out φ H) d v) (e : rk M d = .str x) : v = .str (cs x) ∧ x.all (fun c => decide (c < 1114112)) = true := rv_str m h (rk_ne e fun _ q => by cases q)
theorem rv_lst (m : RepM Z φ M H) {d : D} {v : V} {ds : List D} (h : Is Z φ (out φ H) d v) (e : rd M d = .lst ds) : ∃ a vs, v = .ref a ∧ H a = some (.lst vs) ∧ Iss Z φ (out φ H) ds vs := by
  cases d with
  | ref n =>
    rcases rd_two (M := M) n with ⟨es, q⟩ | q
    · rw [rd_lst q] at e
      cases e
      rw [Is] at h
      obtain ⟨a, h1, h2⟩ := h
      obtain ⟨vs, e1, e2⟩ := m.lst q h2
      exact ⟨a, vs, h1, e1, e2⟩
    · rw [rd_no q] at e; cases e
  | lst j =>
    cases e
    rw [Is] at h
    obtain ⟨a, vs, h1, h2, h3⟩ := h
    exact ⟨a, vs, h1, (out_some h2).2, h3⟩
  | _ => cases e
theorem rd_ref {d : D} {n : Nat} (e : rd M d = .ref n) : d = .ref n ∧ ∀ ds, M[n]? ≠ some (.lst ds) := by
  cases d with
  | ref k =>
    rcases rd_two (M := M) k with ⟨es, q⟩ | q
    · rw [rd_lst q] at e; cases e
    · rw [rd_no q] at e
      cases e
      exact ⟨rfl, q⟩
  | _ => cases e
theorem rv_lstK (m : RepM Z φ M H) {d : D} {v : V} {ds : List D} (h : Is Z φ (out φ H) d v) (e : rk M d = .lst ds) : ∃ a vs, v = .ref a ∧ H a = some (.lst vs) ∧ Iss Z φ (out φ H) ds vs := rv_lst m h (rk_ne e fun _ q => by cases q)
theorem rk_ref {d : D} {n : Nat} (e : rk M d = .ref n) : d = .ref n ∧ ∀ ds, M[n]? ≠ some (.lst ds) := rd_ref (rk_ne e fun _ q => by cases q)
theorem rd_same {d : D} (h : ∀ n, d ≠ .ref n) : rd M d = d := by
  cases d with
  | ref n => exact absurd rfl (h n)
  | _ => rfl
theorem Iss.inv {d : D} {ds : List D} {vs : List V} (h : Iss Z φ G (d :: ds) vs) : ∃ v r, vs = v :: r ∧ Is Z φ G d v ∧ Iss Z φ G ds r := by
  rw [Iss] at h
  exact h
theorem Iss.inv0 {vs : List V} (h : Iss Z φ G [] vs) : vs = [] := by
  rw [Iss] at h
  exact h
theorem Iss.length : ∀ {ds : List D} {vs : List V}, Iss Z φ G ds vs → ds.length = vs.length
  | [], vs, h => by
    simp only [Iss] at h
    subst h
    rfl
  | d :: ds, vs, h => by
    simp only [Iss] at h
    obtain ⟨v, r, h1, _, h3⟩ := h
    subst h1
    simp [Iss.length h3]
theorem Iss.nil : Iss Z φ G [] [] := by simp only [Iss]
theorem Iss.cons {d : D} {ds : List D} {v : V} {vs : List V} (h : Is Z φ G d v) (r : Iss Z φ G ds vs) : Iss Z φ G (d :: ds) (v :: vs) := by
  simp only [Iss]
  exact ⟨v, vs, rfl, h, r⟩
theorem Iss.app : ∀ {ds es : List D} {vs ws : List V}, Iss Z φ G ds vs → Iss Z φ G es ws → Iss Z φ G (ds ++ es) (vs ++ ws)
  | [], es, vs, ws, h, k => by
    simp only [Iss] at h
    subst h
    exact k
  | d :: ds, es, vs, ws, h, k => by
    simp only [Iss] at h
    obtain ⟨v, r, h1, h2, h3⟩ := h
    subst h1
    exact Iss.cons h2 (Iss.app h3 k)
theorem Iss.take : ∀ {ds : List D} {vs : List V} (n : Nat), Iss Z φ G ds vs → Iss Z φ G (ds.take n) (vs.take n)
  | ds, vs, 0, h => by simpa using (Iss.nil (Z := Z) (φ := φ) (G := G))
  | [], vs, n + 1, h => by
    simp only [Iss] at h
    subst h
    exact Iss.nil
  | d :: ds, vs, n + 1, h => by
    simp only [Iss] at h
    obtain ⟨v, r, h1, h2, h3⟩ := h
    subst h1
    exact Iss.cons h2 (Iss.take n h3)
theorem Iss.drop : ∀ {ds : List D} {vs : List V} (n : Nat), Iss Z φ G ds vs → Iss Z φ G (ds.drop n) (vs.drop n)
  | ds, vs, 0, h => h
  | [], vs, n + 1, h => by
    simp only [Iss] at h
    subst h
    exact Iss.nil
  | d :: ds, vs, n + 1, h => by
    simp only [Iss] at h
    obtain ⟨v, r, h1, h2, h3⟩ := h
    subst h1
    exact Iss.drop n h3
theorem Iss.get : ∀ {ds : List D} {vs : List V} {n : Nat} {d : D}, Iss Z φ G ds vs → ds[n]? = some d → ∃ v, vs[n]? = some v ∧ Is Z φ G d v
  | [], vs, n, d, h, e => by simp at e
  | x :: ds, vs, 0, d, h, e => by
    simp only [Iss] at h
    obtain ⟨v, r, h1, h2, h3⟩ := h
    subst h1
    simp at e
    subst e
    exact ⟨v, rfl, h2⟩
  | x :: ds, vs, n + 1, d, h, e => by
    simp only [Iss] at h
    obtain ⟨v, r, h1, h2, h3⟩ := h
    subst h1
    obtain ⟨w, e1, e2⟩ := Iss.get (n := n) h3 (by simpa using e)
    exact ⟨w, by simpa using e1, e2⟩
theorem Iss.cut {ds : List D} {vs : List V} (lo hi : Option Int) (h : Iss Z φ G ds vs) : Iss Z φ G (DL.cut ds lo hi) (cutV vs lo hi) := by
  unfold DL.cut cutV
  rw [h.length]
  exact (h.drop _).take _
theorem Iss.rev : ∀ {ds : List D} {vs : List V}, Iss Z φ G ds vs → Iss Z φ G ds.reverse vs.reverse
  | [], vs, h => by
    simp only [Iss] at h
    subst h
    exact Iss.nil
  | d :: ds, vs, h => by
    simp only [Iss] at h
    obtain ⟨v, r, h1, h2, h3⟩ := h
    subst h1
    rw [List.reverse_cons, List.reverse_cons]
    exact Iss.app (Iss.rev h3) (Iss.cons h2 Iss.nil)
theorem Iss.set : ∀ {ds : List D} {vs : List V} {d : D} {v : V} (n : Nat), Iss Z φ G ds vs → Is Z φ G d v → Iss Z φ G (ds.set n d) (vs.set n v)
  | [], vs, d, v, n, h, k => by
    simp only [Iss] at h
    subst h
    exact Iss.nil
  | x :: ds, vs, d, v, 0, h, k => by
    simp only [Iss] at h
    obtain ⟨y, r, h1, h2, h3⟩ := h
    subst h1
    exact Iss.cons k h3
  | x :: ds, vs, d, v, n + 1, h, k => by
    simp only [Iss] at h
    obtain ⟨y, r, h1, h2, h3⟩ := h
    subst h1
    exact Iss.cons h2 (Iss.set n h3 k)
theorem Iss.letters : ∀ {x : List Nat}, x.all (fun c => decide (c < 1114112)) = true → Iss Z φ G (letters x) (x.map fun c => V.str ⟨#[c]⟩)
  | [], _ => Iss.nil
  | c :: x, h => by
    simp only [List.all_cons, Bool.and_eq_true] at h
    refine Iss.cons ?_ (Iss.letters h.2)
    rw [Is]
    exact ⟨rfl, by simpa using h.1⟩
theorem Iss.ints : ∀ {ns : List Int}, Iss Z φ G (ns.map D.int) (ns.map V.int)
  | [] => Iss.nil
  | n :: ns => Iss.cons (by simp only [Is]) Iss.ints
theorem Iss.strs : ∀ {xs : List (List Nat)}, (∀ x ∈ xs, x.all (fun c => decide (c < 1114112)) = true) → Iss Z φ G (xs.map D.str) (xs.map fun x => V.str (cs x))
  | [], _ => Iss.nil
  | x :: xs, h => Iss.cons (by rw [Is]; exact ⟨rfl, h x (List.mem_cons_self ..)⟩) (Iss.strs fun y hy => h y (List.mem_cons_of_mem _ hy))
theorem Iss.bls : ∀ {ds : List D} {vs : List V} {b : Bool}, Iss Z φ G ds vs → allB ds = some b → ∃ bs : List Bool, vs = bs.map V.bl ∧ bs.all id = b
  | [], vs, b, h, e => by
    simp only [Iss] at h
    subst h
    simp only [allB, Option.some.injEq] at e
    exact ⟨[], rfl, e⟩
  | .bl k :: ds, vs, b, h, e => by
    simp only [Iss, Is] at h
    obtain ⟨v, r, h1, h2, h3⟩ := h
    subst h1 h2
    simp only [allB] at e
    cases q : allB ds with
    | none => rw [q] at e; cases e
    | some b' =>
      rw [q] at e
      obtain ⟨bs, e1, e2⟩ := Iss.bls h3 q
      refine ⟨k :: bs, by rw [e1]; rfl, ?_⟩
      simp only [Option.map_some, Option.some.injEq] at e
      simp [← e, ← e2]
  | .non :: _, _, _, _, e | .int _ :: _, _, _, _, e | .str _ :: _, _, _, _, e | .tup _ :: _, _, _, _, e | .lst _ :: _, _, _, _, e | .ref _ :: _, _, _, _, e | .fn _ :: _, _, _, _, e | .ty _ :: _, _, _, _, e | .exc _ _ :: _, _, _, _, e | .scr _ :: _, _, _, _, e | .key _ :: _, _, _, _, e => by simp [allB] at e
theorem Iss.blsA : ∀ {ds : List D} {vs : List V} {b : Bool}, Iss Z φ G ds vs → anyB ds = some b → ∃ bs : List Bool, vs = bs.map V.bl ∧ bs.any id = b
  | [], vs, b, h, e => by
    simp only [Iss] at h
    subst h
    simp only [anyB, Option.some.injEq] at e
    exact ⟨[], rfl, e⟩
  | .bl k :: ds, vs, b, h, e => by
    simp only [Iss, Is] at h
    obtain ⟨v, r, h1, h2, h3⟩ := h
    subst h1 h2
    simp only [anyB] at e
    cases q : anyB ds with
    | none => rw [q] at e; cases e
    | some b' =>
      rw [q] at e
      obtain ⟨bs, e1, e2⟩ := Iss.blsA h3 q
      refine ⟨k :: bs, by rw [e1]; rfl, ?_⟩
      simp only [Option.map_some, Option.some.injEq] at e
      simp [← e, ← e2]
  | .non :: _, _, _, _, e | .int _ :: _, _, _, _, e | .str _ :: _, _, _, _, e | .tup _ :: _, _, _, _, e | .lst _ :: _, _, _, _, e | .ref _ :: _, _, _, _, e | .fn _ :: _, _, _, _, e | .ty _ :: _, _, _, _, e | .exc _ _ :: _, _, _, _, e | .scr _ :: _, _, _, _, e | .key _ :: _, _, _, _, e => by simp [anyB] at e
theorem Iss.strsOf : ∀ {ds : List D} {vs : List V} {xs : List (List Nat)}, Iss Z φ G ds vs → strsOf ds = some xs → vs = (xs.map cs).map V.str ∧ ds = xs.map D.str ∧ ∀ x ∈ xs, x.all (fun c => decide (c < 1114112)) = true
  | [], vs, xs, h, e => by
    simp only [Iss] at h
    subst h
    simp only [DL.strsOf, Option.some.injEq] at e
    subst e
    exact ⟨rfl, rfl, fun x hx => nomatch hx⟩
  | .str k :: ds, vs, xs, h, e => by
    simp only [Iss, Is] at h
    obtain ⟨v, r, h1, ⟨h2, h2'⟩, h3⟩ := h
    subst h1 h2
    simp only [DL.strsOf] at e
    cases q : DL.strsOf ds with
    | none => rw [q] at e; cases e
    | some b' =>
      rw [q] at e
      obtain ⟨e1, e2, e3⟩ := Iss.strsOf h3 q
      simp only [Option.map_some, Option.some.injEq] at e
      subst e
      refine ⟨by rw [e1]; rfl, by rw [e2]; rfl, fun x hx => ?_⟩
      rcases List.mem_cons.mp hx with z | z
      · rw [z]; exact h2'
      · exact e3 x z
  | .non :: _, _, _, _, e | .int _ :: _, _, _, _, e | .bl _ :: _, _, _, _, e | .tup _ :: _, _, _, _, e | .lst _ :: _, _, _, _, e | .ref _ :: _, _, _, _, e | .fn _ :: _, _, _, _, e | .ty _ :: _, _, _, _, e | .exc _ _ :: _, _, _, _, e | .scr _ :: _, _, _, _, e | .key _ :: _, _, _, _, e => by simp [DL.strsOf] at e
theorem Iss.intsOf : ∀ {ds : List D} {vs : List V} {xs : List Int}, Iss Z φ G ds vs → intsOf ds = some xs → vs = xs.map V.int ∧ ds = xs.map D.int
  | [], vs, xs, h, e => by
    simp only [Iss] at h
    subst h
    simp only [DL.intsOf, Option.some.injEq] at e
    subst e
    exact ⟨rfl, rfl⟩
  | .int k :: ds, vs, xs, h, e => by
    simp only [Iss, Is] at h
    obtain ⟨v, r, h1, h2, h3⟩ := h
    subst h1 h2
    simp only [DL.intsOf] at e
    cases q : DL.intsOf ds with
    | none => rw [q] at e; cases e
    | some b' =>
      rw [q] at e
      obtain ⟨e1, e2⟩ := Iss.intsOf h3 q
      simp only [Option.map_some, Option.some.injEq] at e
      subst e
      exact ⟨by rw [e1]; rfl, by rw [e2]; rfl⟩
  | .non :: _, _, _, _, e | .str _ :: _, _, _, _, e | .bl _ :: _, _, _, _, e | .tup _ :: _, _, _, _, e | .lst _ :: _, _, _, _, e | .ref _ :: _, _, _, _, e | .fn _ :: _, _, _, _, e | .ty _ :: _, _, _, _, e | .exc _ _ :: _, _, _, _, e | .scr _ :: _, _, _, _, e | .key _ :: _, _, _, _, e => by simp [DL.intsOf] at e
/-! ### plain data -/
mutual
theorem Is.dp (K : PySem.W.Frag) (hK : K = Z.K) : ∀ (d : D) (v : V), d.plain = true → Is Z φ (out φ H) d v → Dp K H v d.toP
  | .non, v, _, h => by
    simp only [Is] at h
    subst h
    exact .non
  | .bl b, v, _, h => by
    simp only [Is] at h
    subst h
    exact .bl b
  | .int b, v, _, h => by
    simp only [Is] at h
    subst h
    exact .int b
  | .str b, v, _, h => by
    simp only [Is] at h
    rw [h.1]
    exact .str _
  | .tup ds, v, p, h => by
    simp only [Is] at h
    obtain ⟨a, vs, h1, h2, h3⟩ := h
    subst h1
    simp only [D.toP]
    simp only [D.plain] at p
    exact .tup (by rw [hK]; exact sqT_out h2.sqT) (Iss.dp K hK ds vs p h3)
  | .lst ds, v, p, h => by
    simp only [Is] at h
    obtain ⟨a, vs, h1, h2, h3⟩ := h
    subst h1
    simp only [D.toP]
    simp only [D.plain] at p
    exact .lst (SqL.of (out_some h2).2) (Iss.dp K hK ds vs p h3)
  | .ref n, v, p, _ => by simp [D.plain] at p
  | .fn n, v, p, _ => by simp [D.plain] at p
  | .ty n, v, p, _ => by simp [D.plain] at p
  | .exc n _, v, p, _ => by simp [D.plain] at p
  | .scr n, v, p, _ => by simp [D.plain] at p
  | .key ds, v, p, h => by
    simp only [Is] at h
    obtain ⟨a, vs, h1, h2, h3⟩ := h
    subst h1
    simp only [D.toP]
    simp only [D.plain] at p
    exact .tup (SqT.of (out_some h2).2) (Iss.dp K hK ds vs p h3)
theorem Iss.dp (K : PySem.W.Frag) (hK : K = Z.K) : ∀ (ds : List D) (vs : List V), D.plains ds = true → Iss Z φ (out φ H) ds vs → DpAll K H vs (D.toPs ds)
  | [], vs, _, h => by
    simp only [Iss] at h
    subst h
    simp only [D.toPs]
    exact .nil
  | d :: ds, vs, p, h => by
    simp only [Iss] at h
    obtain ⟨v, r, h1, h2, h3⟩ := h
    subst h1
    simp only [D.plains, Bool.and_eq_true] at p
    simp only [D.toPs]
    exact .cons (Is.dp K hK d v p.1 h2) (Iss.dp K hK ds r p.2 h3)
end
mutual
theorem depth_toP : ∀ d : D, PyData.depth d.toP = d.depth
  | .non => by simp [D.toP, D.depth, PyData.depth]
  | .bl _ => by simp [D.toP, D.depth, PyData.depth]
  | .int _ => by simp [D.toP, D.depth, PyData.depth]
  | .str _ => by simp [D.toP, D.depth, PyData.depth]
  | .ref _ => by simp [D.toP, D.depth, PyData.depth]
  | .fn _ => by simp [D.toP, D.depth, PyData.depth]
  | .ty _ => by simp [D.toP, D.depth, PyData.depth]
  | .exc _ _ => by simp [D.toP, D.depth, PyData.depth]
  | .scr _ => by simp [D.toP, D.depth, PyData.depth]
  | .tup ds => by simp [D.toP, D.depth, PyData.depth, depths_toP ds]
  | .key ds => by simp [D.toP, D.depth, PyData.depth, depths_toP ds]
  | .lst ds => by simp [D.toP, D.depth, PyData.depth, depths_toP ds]
theorem depths_toP : ∀ ds : List D, PyData.depthAll (D.toPs ds) = D.depths ds
  | [] => by simp [D.toPs, D.depths, PyData.depthAll]
  | d :: ds => by simp [D.toPs, D.depths, PyData.depthAll, depth_toP d, depths_toP ds]
end
mutual
theorem Is.lay : ∀ (d : D) (v : V), d.plain = true → Is Z φ G d v → PyData.canLay0 d.toP = true
  | .non, v, _, h => by simp [D.toP, PyData.canLay0]
  | .bl b, v, _, h => by simp [D.toP, PyData.canLay0]
  | .int b, v, _, h => by simp [D.toP, PyData.canLay0]
  | .str b, v, _, h => by
    simp only [Is] at h
    simp only [D.toP, PyData.canLay0, PyData.strOk]
    have := h.2
    simpa using this
  | .tup ds, v, p, h => by
    simp only [Is] at h
    obtain ⟨a, vs, h1, h2, h3⟩ := h
    simp only [D.plain] at p
    simp only [D.toP, PyData.canLay0]
    exact Iss.lay ds vs p h3
  | .lst ds, v, p, h => by
    simp only [Is] at h
    obtain ⟨a, vs, h1, h2, h3⟩ := h
    simp only [D.plain] at p
    simp only [D.toP, PyData.canLay0]
    exact Iss.lay ds vs p h3
  | .ref n, v, p, _ => by simp [D.plain] at p
  | .fn n, v, p, _ => by simp [D.plain] at p
  | .ty n, v, p, _ => by simp [D.plain] at p
  | .exc n _, v, p, _ => by simp [D.plain] at p
  | .scr n, v, p, _ => by simp [D.plain] at p
  | .key ds, v, p, h => by
    simp only [Is] at h
    obtain ⟨a, vs, h1, h2, h3⟩ := h
    simp only [D.plain] at p
    simp only [D.toP, PyData.canLay0]
    exact Iss.lay ds vs p h3
theorem Iss.lay : ∀ (ds : List D) (vs : List V), D.plains ds = true → Iss Z φ G ds vs → PyData.canLayAll0 (D.toPs ds) = true
  | [], vs, _, h => by simp [D.toPs, PyData.canLayAll0]
  | d :: ds, vs, p, h => by
    simp only [Iss] at h
    obtain ⟨v, r, h1, h2, h3⟩ := h
    simp only [D.plains, Bool.and_eq_true] at p
    simp only [D.toPs, PyData.canLayAll0, Bool.and_eq_true]
    exact ⟨Is.lay d v p.1 h2, Iss.lay ds r p.2 h3⟩
end
/-- a value that may be compared, read as it stands -/
theorem rv_dp (K : PySem.W.Frag) (hK : K = Z.K) (m : RepM Z φ M H) {d : D} {v : V} (i : Is Z φ (out φ H) d v) (o : (rd M d).okEq = true) : Dp K H v (rd M d).toP ∧ SeqAt.shaped (rd M d).toP = true := by
  have o' := o
  simp only [D.okEq, Bool.and_eq_true, decide_eq_true_eq] at o
  have dep : PyData.depth (rd M d).toP ≤ 64 := by rw [depth_toP]; exact o.2
  have sh : PyData.canLay0 (rd M d).toP = true → SeqAt.shaped (rd M d).toP = true := fun h => by
    show (PyData.canLay0 _ && decide (PyData.depth _ ≤ 64)) = true
    rw [h, decide_eq_true dep]
    rfl
  by_cases hd : rd M d = d
  · rw [hd] at o sh ⊢
    exact ⟨Is.dp K hK d v o.1 i, sh (Is.lay d v o.1 i)⟩
  · have : ∃ ds, rd M d = .lst ds := by
      cases d with
      | ref n =>
        rcases rd_two (M := M) n with ⟨ds, q⟩ | q
        · exact ⟨ds, rd_lst q⟩
        · exact absurd (rd_no q) hd
      | _ => exact absurd rfl hd
    obtain ⟨ds, e⟩ := this
    obtain ⟨a, vs, rfl, h1, h2⟩ := rv_lst m i e
    rw [e] at o sh ⊢
    simp only [D.plain] at o
    simp only [D.toP] at sh ⊢
    refine ⟨.lst (SqL.of h1) (Iss.dp K hK ds vs o.1 h2), sh ?_⟩
    simp only [PyData.canLay0]
    exact Iss.lay ds vs o.1 h2
end
end DL
end
section
set_option Elab.async false
set_option linter.all false
set_option maxRecDepth 100000
set_option autoImplicit false
set_option maxHeartbeats 4000000
/-! DL4: the operations: each built-in operation's rule, as the evaluator has it. -/
namespace DL
open PySem PySem.Spec PyProof.Rows L2 LamX

/-! ### new tuples without a dict -/
section
variable {X : Cx}
theorem Inv.laidT {pins : List (Addr × Obj)} {σ : L2.St} {H : Hp} {s : Shared} {xs : List V} {its : List Value} {h' : Heap} {t' : Nat} (I : Inv X pins σ H s) (k : ∀ b u, s.heap.get? b = some u → h'.get? b = some u) (hp : s.heap.objs.size ≤ h'.objs.size) (z : xs.length ≤ sizeLine) (r : Vals xs its) :
    Inv X pins σ (upd H h'.objs.size (.frz { cls := .type "tuple", data := .seq its.toArray } (.tup xs))) { s with heap := h'.push { cls := .type "tuple", data := .seq its.toArray }, toks := t' } :=
  Inv.laid (t' := t') I (fun b u e => Heap.get?_push_of_some _ (k b u e)) hp ⟨Heap.get?_push_size _ rfl, z, its, r, IsTup.new _ _⟩
def NewT (H : Hp) (xs : List V) (Q : VK) : Prop := ∀ (p : Addr) (o : Obj), H p = none → o.dict = none → Q (.ref p) (upd H p (.frz o (.tup xs)))
theorem NewT.ep {pins : List (Addr × Obj)} {σ : L2.St} {H : Hp} {s : Shared} {xs : List V} {its : List Value} {Q : VK} (I : Inv X pins σ H s) (q : NewT H xs Q) (z : xs.length ≤ sizeLine) (r : Vals xs its) :
    EP X pins σ Q (.ref s.heap.objs.size) { s with heap := s.heap.push { cls := .type "tuple", data := .seq its.toArray } } :=
  ⟨.ref s.heap.objs.size, _, Inv.laidT (t' := s.toks) I (fun _ _ e => e) (Nat.le_refl _) z r, rfl, q _ _ (I.hok.fresh (Nat.le_refl _)) rfl⟩
/-- t + u -/
def rCatF (K : PySem.W.Frag) : R2 := fun x y H Q => ∃ a b xs ys, x = .ref a ∧ y = .ref b ∧ SqT K H a xs ∧ SqT K H b ys ∧ xs.length + ys.length ≤ sizeLine ∧
  (xs = [] → Q (.ref b) H) ∧ (xs ≠ [] → ys = [] → Q (.ref a) H) ∧ (xs ≠ [] → ys ≠ [] → NewT H (xs ++ ys) Q)
theorem op_catF : OpR X (binaryOp .Add) (rCatF X.K) := by
  intro pins s σ H x y v u Q I rx ry h
  obtain ⟨a, b, xs, ys, rfl, rfl, ha, hb, hz, q0, q1, q2⟩ := h
  by_cases hx : xs = []
  · subst hx
    cases rx
    cases ry
    obtain ⟨its, r1, p1, _⟩ := I.tuple ha
    obtain ⟨its2, r2, p2, _⟩ := I.tuple hb
    cases r1
    exact cat_tup0 p1 p2 ⟨.ref b, H, I, rfl, q0 rfl⟩
  · cases rx
    cases ry
    obtain ⟨its, r1, p1, _⟩ := I.tuple ha
    obtain ⟨its2, r2, p2, _⟩ := I.tuple hb
    refine HT.cat_tup p1 p2 (fun z => hx (r1.nil_iff.mp z)) (fun z => ⟨.ref a, H, I, rfl, q1 hx (r2.nil_iff.mp z)⟩) (fun z => ?_) (by rw [← r1.length, ← r2.length]; exact hz)
    exact NewT.ep I (q2 hx fun w => z (r2.nil_iff.mpr w)) (by rw [List.length_append]; exact hz) (r1.append r2)
/-- t[lo:hi] -/
def rSlF (K : PySem.W.Frag) : V → Option Int → Option Int → Hp → VK → Prop := fun x lo hi H Q => ∃ a xs, x = .ref a ∧ SqT K H a xs ∧
  (HT.sIx xs.length 0 lo = 0 ∧ HT.sIx xs.length xs.length hi = xs.length → Q (.ref a) H) ∧ (¬ (HT.sIx xs.length 0 lo = 0 ∧ HT.sIx xs.length xs.length hi = xs.length) → NewT H (cutV xs lo hi) Q)
theorem sl_tupF : SlR X (rSlF X.K) := by
  intro pins s σ H x v vl vu lo hi sl Q I rx hs pl pu h
  obtain ⟨a, xs, rfl, hx, q1, q2⟩ := h
  cases rx
  obtain ⟨its, r, ht, hz⟩ := I.tuple hx
  have hlen : its.toArray.size = xs.length := by rw [List.size_toArray]; exact r.length.symm
  refine ⟨"tuple", _, PyProof.Rows.slot_tuple_getitem.lookup, ht.typeIs, ?_⟩
  by_cases hw : HT.sIx xs.length 0 lo = 0 ∧ HT.sIx xs.length xs.length hi = xs.length
  · exact getItem_tuple_whole ht hs pl pu (by rw [hlen]; exact hw) ⟨.ref a, H, I, rfl, q1 hw⟩
  · refine HT.getItem_tuple_cut ht hs pl pu (by rw [hlen]; exact hw) ?_ (by rw [hlen]; exact hz)
    rw [hlen]
    exact NewT.ep I (q2 hw) (Nat.le_trans (cutV_length xs lo hi) hz) ((r.drop (HT.sIx xs.length 0 lo)).take (HT.sIx xs.length xs.length hi - HT.sIx xs.length 0 lo))
/-- tuple(x): of a list a new one, of a tuple itself -/
theorem call_tupleF : CallR X (.type "tuple") (fun xs H Q => ∃ p ys, xs = [.ref p] ∧ ((SqL X.K H p ys ∧ NewT H ys Q) ∨ (SqT X.K H p ys ∧ Q (.ref p) H))) := by
  intro pins s σ H xs us Q I r h
  obtain ⟨p, ys, rfl, h⟩ := h
  obtain ⟨u, rfl, rx⟩ := vals1 r
  cases rx
  rcases h with ⟨hq, q⟩ | ⟨hq, q⟩
  · obtain ⟨its, r', pl, hz⟩ := I.list hq
    have hlen := r'.length
    refine call_tuple_list pl.isList (fun h' kp => ?_) (by simp only [List.size_toArray] <;> omega)
    have I1 : Inv X pins σ H { s with heap := h' } := I.kept (t' := s.toks) kp
    exact NewT.ep I1 q hz r'
  · obtain ⟨its, r', pl, hz⟩ := I.tuple hq
    exact call_tuple_same pl ⟨.ref p, H, I, rfl, q⟩
/-- (a, b, ..) -/
def tTupF (t : TA) : TE := fun σ H Q => t σ H fun xs H1 => xs.length ≤ sizeLine ∧ NewT H1 xs Q
theorem pe_tupF {es : List Expr} {t : TA} {pos : Pos} {x1 : Nat} (h : PA X es t) : PE X (.Tuple es x1 pos) (tTupF t) := by
  refine ⟨fun pins s σ H Q I hq => ?_⟩
  refine wpAny_Tuple_spliced (thn (h.run pos pins s σ H _ I hq) fun us s1 ⟨xs, H1, I1, r, z, q⟩ => ⟨by rw [← r.length]; exact z, ?_⟩)
  exact NewT.ep I1 q z r
end
section
variable (Z : Fix)
def rO2 (o : O2) : R2 := fun x y H Q => ∃ φ M d e W σ, RepM Z φ M H ∧ Is Z φ (out φ H) d x ∧ Is Z φ (out φ H) e y ∧ post Z (Is Z) W σ φ H (ofO (ev2 o d e M) M) Q
def rO1 (o : O1) : V → Hp → VK → Prop := fun x H Q => ∃ φ M d W σ, RepM Z φ M H ∧ Is Z φ (out φ H) d x ∧ post Z (Is Z) W σ φ H (ofO (ev1 o d M) M) Q
def rC1 (o : O1) : List V → Hp → VK → Prop := fun xs H Q => ∃ x, xs = [x] ∧ rO1 Z o x H Q
end
section
variable {Z : Fix} {X : Cx} {φ : Ph} {H : Hp} {M : Store} {W : WX} {σ : L2.St}
theorem cs_cat (a b : List Nat) : cs a ++ cs b = cs (a ++ b) := SX.S_cat a b
theorem cs_len (a : List Nat) : (cs a).length = a.length := SX.S_len a
theorem all_app {a b : List Nat} (h : a.all (fun c => decide (c < 1114112)) = true) (k : b.all (fun c => decide (c < 1114112)) = true) : (a ++ b).all (fun c => decide (c < 1114112)) = true := by
  rw [List.all_append, h, k]
  rfl
theorem is_int {i : Int} {v : V} (h : Is Z φ (out φ H) (.int i) v) : v = .int i := by
  rw [Is] at h
  exact h
theorem is_bl {i : Bool} {v : V} (h : Is Z φ (out φ H) (.bl i) v) : v = .bl i := by
  rw [Is] at h
  exact h
theorem is_str {x : List Nat} {v : V} (h : Is Z φ (out φ H) (.str x) v) : v = .str (cs x) ∧ x.all (fun c => decide (c < 1114112)) = true := by
  rw [Is] at h
  exact h
theorem is_non {v : V} (h : Is Z φ (out φ H) .non v) : v = .non := by
  rw [Is] at h
  exact h

theorem post.newT' {ds : List D} {vs : List V} {Q : VK} (h : post Z (Is Z) W σ φ H (.ok (.tup ds) M) Q) (m : RepM Z φ M H) (i : Iss Z φ (out φ H) ds vs) : NewT H vs Q := fun p o hp hd => h.newT m i p o hp hd
theorem o2_add (hK : X.K = Z.K) : OpR X (binaryOp .Add) (rO2 Z .add) := by
  refine OpR.imp (op_add.or (op_add_str.or (op_catF.or op_cat))) fun x y H Q ⟨φ, M, d, e, W, σ, m, i, j, q⟩ => ?_
  simp only [ev2] at q
  split at q
  · rename_i a b e1 e2
    exact .inl ⟨a, b, rv_int m i e1, rv_int m j e2, q.int m⟩
  · rename_i a b e1 e2
    obtain ⟨rfl, s1⟩ := rv_str m i e1
    obtain ⟨rfl, s2⟩ := rv_str m j e2
    split at q
    · rename_i hl
      refine .inr (.inl ⟨_, _, rfl, rfl, by rw [cs_len, cs_len, ← line_eq]; exact hl, ?_⟩)
      rw [cs_cat]
      exact q.str m (all_app s1 s2)
    · exact q.elim
  · rename_i a b e1 e2
    obtain ⟨p, vs, rfl, t1, l1⟩ := rv_lst m i e1
    obtain ⟨p2, ws, rfl, t2, l2⟩ := rv_lst m j e2
    split at q
    · rename_i hl
      exact .inr (.inr (.inr ⟨p, p2, vs, ws, rfl, rfl, t1, t2, by rw [← l1.length, ← l2.length, ← line_eq]; exact hl, q.newL m (l1.app l2)⟩))
    · exact q.elim
  · split at q
    · rename_i a b e1 e2
      have s1 := asTup_same e1
      have s2 := asTup_same e2
      obtain ⟨p, vs, rfl, t1, l1⟩ := rv_tupK m i (asTup_rd e1)
      obtain ⟨p2, ws, rfl, t2, l2⟩ := rv_tupK m j (asTup_rd e2)
      split at q
      · rename_i hl
        refine .inr (.inr (.inl ⟨p, p2, vs, ws, rfl, rfl, by rw [hK]; exact sqT_out t1, by rw [hK]; exact sqT_out t2, by rw [← l1.length, ← l2.length, ← line_eq]; exact hl, fun h => ?_, fun h h' => ?_, fun h h' => ?_⟩))
        · have : a = [] := by
            have := l1.length
            rw [h] at this
            simpa using this
          subst this
          rw [s2] at q
          exact q.fin m j
        · have ha : a ≠ [] := fun z => h (by
            have := l1.length
            rw [z] at this
            simpa using this.symm)
          have hb : b = [] := by
            have := l2.length
            rw [h'] at this
            simpa using this
          subst hb
          have : a.isEmpty = false := by simpa using ha
          rw [this, s1] at q
          exact q.fin m i
        · have ha : a.isEmpty = false := by
            have : a ≠ [] := fun z => h (by
              have := l1.length
              rw [z] at this
              simpa using this.symm)
            simpa using this
          have hb : b.isEmpty = false := by
            have : b ≠ [] := fun z => h' (by
              have := l2.length
              rw [z] at this
              simpa using this.symm)
            simpa using this
          rw [ha, hb] at q
          exact post.newT' q m (l1.app l2)
      · exact q.elim
    · exact q.elim
theorem o2_sub : OpR X (binaryOp .Sub) (rO2 Z .sub) := by
  refine OpR.imp op_sub fun x y H Q ⟨φ, M, d, e, W, σ, m, i, j, q⟩ => ?_
  simp only [ev2] at q
  split at q
  · exact ⟨_, _, is_int i, is_int j, q.int m⟩
  · exact q.elim
theorem o2_mul : OpR X (binaryOp .Mult) (rO2 Z .mul) := by
  refine OpR.imp op_mul fun x y H Q ⟨φ, M, d, e, W, σ, m, i, j, q⟩ => ?_
  simp only [ev2] at q
  split at q
  · rename_i a b
    split at q
    · rename_i h
      refine ⟨_, _, is_int i, is_int j, ?_, q.int m⟩
      simp only [Bool.or_eq_true, small, Bool.and_eq_true, decide_eq_true_eq] at h
      exact h
    · exact q.elim
  · exact q.elim
theorem o2_fdiv : OpR X (binaryOp .FloorDiv) (rO2 Z .fdiv) := by
  refine OpR.imp op_fdiv fun x y H Q ⟨φ, M, d, e, W, σ, m, i, j, q⟩ => ?_
  simp only [ev2] at q
  split at q
  · split at q
    · rename_i h
      exact ⟨_, _, is_int i, is_int j, h, q.int m⟩
    · exact q.elim
  · exact q.elim
theorem o2_mod : OpR X (binaryOp .Mod) (rO2 Z .mod) := by
  refine OpR.imp op_mod fun x y H Q ⟨φ, M, d, e, W, σ, m, i, j, q⟩ => ?_
  simp only [ev2] at q
  split at q
  · split at q
    · rename_i h
      exact ⟨_, _, is_int i, is_int j, h, q.int m⟩
    · exact q.elim
  · exact q.elim
theorem o2_pow : OpR X (binaryOp .Pow) (rO2 Z .pow) := by
  refine OpR.imp op_pow fun x y H Q ⟨φ, M, d, e, W, σ, m, i, j, q⟩ => ?_
  simp only [ev2] at q
  split at q
  · split at q
    · rename_i h
      exact ⟨_, _, is_int i, is_int j, h, q.int m⟩
    · exact q.elim
  · exact q.elim
theorem o2_eq (hK : X.K = Z.K) (hu : X.A.units + 64 < cLine) : OpR X (compareOp .Eq) (rO2 Z .eq) := by
  refine OpR.imp (op_eqD hu) fun x y H Q ⟨φ, M, d, e, W, σ, m, i, j, q⟩ => ?_
  simp only [ev2, eqD] at q
  split at q
  · rename_i h
    simp only [Bool.and_eq_true] at h
    obtain ⟨a1, a2⟩ := rv_dp X.K hK m i h.1
    obtain ⟨b1, b2⟩ := rv_dp X.K hK m j h.2
    exact ⟨_, _, a1, b1, a2, b2, q.bl m⟩
  · exact q.elim
theorem o2_ne (hK : X.K = Z.K) (hu : X.A.units + 64 < cLine) : OpR X (compareOp .NotEq) (rO2 Z .ne) := by
  refine OpR.imp (op_neD hu) fun x y H Q ⟨φ, M, d, e, W, σ, m, i, j, q⟩ => ?_
  simp only [ev2, eqD] at q
  split at q
  · rename_i h
    simp only [Bool.and_eq_true] at h
    obtain ⟨a1, a2⟩ := rv_dp X.K hK m i h.1
    obtain ⟨b1, b2⟩ := rv_dp X.K hK m j h.2
    exact ⟨_, _, a1, b1, a2, b2, q.bl m⟩
  · exact q.elim
/-! order -/
theorem ltN_iff : ∀ a b : List Nat, ltN a b = decide (a < b)
  | [], [] => by simp [ltN]
  | [], _ :: _ => by simp [ltN]
  | _ :: _, [] => by simp [ltN]
  | x :: a, y :: b => by
    simp only [ltN]
    rw [ltN_iff a b]
    by_cases h : x = y
    · subst h
      rw [if_pos rfl]
      exact decide_eq_decide.mpr (by rw [List.cons_lt_cons_iff]; simp)
    · rw [if_neg h]
      exact decide_eq_decide.mpr (by rw [List.cons_lt_cons_iff]; simp [h])
theorem cs_tl (a : List Nat) : (cs a).cps.toList = a := by simp
theorem o2_lt : OpR X (compareOp .Lt) (rO2 Z .lt) := by
  refine OpR.imp (op_lt.or op_lt_str) fun x y H Q ⟨φ, M, d, e, W, σ, m, i, j, q⟩ => ?_
  simp only [ev2] at q
  split at q
  · exact .inl ⟨_, _, is_int i, is_int j, q.bl m⟩
  · refine .inr ⟨_, _, (is_str i).1, (is_str j).1, ?_⟩
    have := q.bl m
    rw [ltN_iff] at this
    simpa only [cs_tl] using this
  · exact q.elim
theorem o2_le : OpR X (compareOp .LtE) (rO2 Z .le) := by
  refine OpR.imp (op_le.or op_le_str) fun x y H Q ⟨φ, M, d, e, W, σ, m, i, j, q⟩ => ?_
  simp only [ev2] at q
  split at q
  · exact .inl ⟨_, _, is_int i, is_int j, q.bl m⟩
  · refine .inr ⟨_, _, (is_str i).1, (is_str j).1, ?_⟩
    have := q.bl m
    rw [ltN_iff] at this
    simpa only [cs_tl] using this
  · exact q.elim
theorem o2_gt : OpR X (compareOp .Gt) (rO2 Z .gt) := by
  refine OpR.imp (op_gt.or op_gt_str) fun x y H Q ⟨φ, M, d, e, W, σ, m, i, j, q⟩ => ?_
  simp only [ev2] at q
  split at q
  · exact .inl ⟨_, _, is_int i, is_int j, q.bl m⟩
  · refine .inr ⟨_, _, (is_str i).1, (is_str j).1, ?_⟩
    have := q.bl m
    rw [ltN_iff] at this
    simpa only [cs_tl] using this
  · exact q.elim
theorem o2_ge : OpR X (compareOp .GtE) (rO2 Z .ge) := by
  refine OpR.imp (op_ge.or op_ge_str) fun x y H Q ⟨φ, M, d, e, W, σ, m, i, j, q⟩ => ?_
  simp only [ev2] at q
  split at q
  · exact .inl ⟨_, _, is_int i, is_int j, q.bl m⟩
  · refine .inr ⟨_, _, (is_str i).1, (is_str j).1, ?_⟩
    have := q.bl m
    rw [ltN_iff] at this
    simpa only [cs_tl] using this
  · exact q.elim
theorem is_none {d : D} {v : V} (h : Is Z φ (out φ H) d v) : decide (v = .non) = d.isNon := by
  cases d with
  | non => rw [is_non h]; rfl
  | bl b => rw [is_bl h]; rfl
  | int b => rw [is_int h]; rfl
  | str b => rw [(is_str h).1]; rfl
  | tup ds => rw [Is] at h; obtain ⟨a, vs, h1, _⟩ := h; rw [h1]; rfl
  | lst ds => rw [Is] at h; obtain ⟨a, vs, h1, _⟩ := h; rw [h1]; rfl
  | ref ds => rw [Is] at h; obtain ⟨a, h1, _⟩ := h; rw [h1]; rfl
  | fn ds => rw [Is] at h; rw [h]; rfl
  | ty ds => rw [Is] at h; rw [h]; rfl
  | exc c ds => rw [Is] at h; obtain ⟨a, _, vs, h1, _⟩ := h; rw [h1]; rfl
  | scr ds => rw [Is] at h; obtain ⟨a, h1, _⟩ := h; rw [h1]; rfl
  | key ds => rw [Is] at h; obtain ⟨a, vs, h1, _⟩ := h; rw [h1]; rfl
theorem o2_isN : OpR X (compareOp .Is) (rO2 Z .isN) := by
  refine OpR.imp op_isN fun x y H Q ⟨φ, M, d, e, W, σ, m, i, j, q⟩ => ?_
  simp only [ev2] at q
  split at q
  · refine ⟨is_non j, ?_⟩
    rw [is_none i]
    exact q.bl m
  · exact q.elim
theorem o2_notN : OpR X (compareOp .IsNot) (rO2 Z .notN) := by
  refine OpR.imp op_notN fun x y H Q ⟨φ, M, d, e, W, σ, m, i, j, q⟩ => ?_
  simp only [ev2] at q
  split at q
  · refine ⟨is_non j, ?_⟩
    rw [is_none i]
    exact q.bl m
  · exact q.elim
end
end DL
end
section
set_option Elab.async false
set_option linter.all false
set_option maxRecDepth 100000
set_option autoImplicit false
set_option maxHeartbeats 4000000
/-! DL5: dicts, membership, subscripts, lengths, conversions. -/
namespace DL
open PySem PySem.Spec PyProof.Rows L2 LamX

section
variable {Z : Fix} {X : Cx} {φ : Ph} {G H : Hp} {M : Store} {W : WX} {σ : L2.St}
/-! ### keys -/
theorem key_eqv : ∀ {a b : D} {k l : Key}, toKey a = some k → toKey b = some l → D.eqv a b = decide (k = l)
  | .int i, .int j, _, _, h1, h2 => by
    cases h1
    cases h2
    simp only [D.eqv, D.toP, PyData.eqv]
    rw [key_ll]
  | .str i, .str j, _, _, h1, h2 => by
    cases h1
    cases h2
    simp only [D.eqv, D.toP, PyData.eqv]
    rw [key_rr, SX.S_beq_eq]
    exact decide_eq_decide.mpr ⟨fun h => by rw [h], fun h => SX.S_inj h⟩
  | .int i, .str j, _, _, h1, h2 => by
    cases h1
    cases h2
    simp only [D.eqv, D.toP, PyData.eqv]
    rw [key_lr]
  | .str i, .int j, _, _, h1, h2 => by
    cases h1
    cases h2
    simp only [D.eqv, D.toP, PyData.eqv]
    rw [key_rl]
  | .non, _, _, _, h, _ | .bl _, _, _, _, h, _ | .tup _, _, _, _, h, _ | .lst _, _, _, _, h, _ | .ref _, _, _, _, h, _ | .fn _, _, _, _, h, _ | .ty _, _, _, _, h, _ | .exc _ _, _, _, _, h, _ | .scr _, _, _, _, h, _ | .key _, _, _, _, h, _ => by cases h
  | .int _, .non, _, _, _, h | .int _, .bl _, _, _, _, h | .int _, .tup _, _, _, _, h | .int _, .lst _, _, _, _, h | .int _, .ref _, _, _, _, h | .int _, .fn _, _, _, _, h | .int _, .ty _, _, _, _, h | .int _, .exc _ _, _, _, _, h | .int _, .scr _, _, _, _, h | .int _, .key _, _, _, _, h => by cases h
  | .str _, .non, _, _, _, h | .str _, .bl _, _, _, _, h | .str _, .tup _, _, _, _, h | .str _, .lst _, _, _, _, h | .str _, .ref _, _, _, _, h | .str _, .fn _, _, _, _, h | .str _, .ty _, _, _, _, h | .str _, .exc _ _, _, _, _, h | .str _, .scr _, _, _, _, h | .str _, .key _, _, _, _, h => by cases h
theorem keys_eqv : ∀ {a b : List D} {k l : List Key}, toKeys a = some k → toKeys b = some l → PyData.eqvAll (D.toPs a) (D.toPs b) = decide (k = l)
  | [], [], _, _, h1, h2 => by
    cases h1
    cases h2
    simp [D.toPs, PyData.eqvAll]
  | [], d :: ds, _, _, h1, h2 => by
    cases h1
    simp only [toKeys] at h2
    split at h2
    · cases h2
      simp [D.toPs, PyData.eqvAll]
    · cases h2
  | d :: ds, [], _, _, h1, h2 => by
    cases h2
    simp only [toKeys] at h1
    split at h1
    · cases h1
      simp [D.toPs, PyData.eqvAll]
    · cases h1
  | d :: ds, e :: es, _, _, h1, h2 => by
    simp only [toKeys] at h1 h2
    split at h1
    · rename_i k1 ks1 a1 a2
      cases h1
      split at h2
      · rename_i k2 ks2 b1 b2
        cases h2
        simp only [D.toPs, PyData.eqvAll]
        rw [keys_eqv a2 b2, show PyData.eqv d.toP e.toP = _ from key_eqv a1 b1]
        by_cases h : k1 = k2
        · by_cases h' : ks1 = ks2
          · simp [h, h']
          · simp [h, h']
        · simp [h]
      · cases h2
    · cases h1
theorem tkey_eqv {x y : D} {a b : List D} {k l : List Key} (hx : x.toP = .tuple (D.toPs a)) (hy : y.toP = .tuple (D.toPs b)) (h1 : toKeys a = some k) (h2 : toKeys b = some l) : D.eqv x y = decide (k = l) := by
  simp only [D.eqv, hx, hy, PyData.eqv]
  exact keys_eqv h1 h2
/-- the value v is the key -/
theorem is_key {d : D} {v : V} {k : Key} (h : Is Z φ G d v) (e : toKey d = some k) : v = kV k ∧ strOkD d = true := by
  cases d with
  | int i => cases e; rw [Is] at h; exact ⟨h, rfl⟩
  | str x => cases e; rw [Is] at h; exact ⟨h.1, h.2⟩
  | _ => cases e
theorem iss_keys : ∀ {ds : List D} {vs : List V} {k : List Key}, Iss Z φ G ds vs → toKeys ds = some k → vs = k.map kV ∧ ds.all strOkD = true
  | [], vs, k, h, e => by
    cases e
    exact ⟨h.inv0, rfl⟩
  | d :: ds, vs, k, h, e => by
    obtain ⟨v, r, rfl, h2, h3⟩ := h.inv
    simp only [toKeys] at e
    split at e
    · rename_i k1 ks1 a1 a2
      cases e
      obtain ⟨e1, e2⟩ := is_key h2 a1
      obtain ⟨e3, e4⟩ := iss_keys h3 a2
      rw [e1, e3]
      simp [e2]
      simpa using e4
    · cases e
theorem keyOk_one {d : D} (h : keyOk false d = true) : ∃ k, toKey d = some k := by
  cases d with
  | int i => exact ⟨_, rfl⟩
  | str x => exact ⟨_, rfl⟩
  | _ => cases h
theorem keys_all : ∀ {ds : List D}, ds.all isKey = true → ∃ k, toKeys ds = some k
  | [], _ => ⟨[], rfl⟩
  | d :: ds, h => by
    simp only [List.all_cons, Bool.and_eq_true] at h
    obtain ⟨k, e⟩ := keyOk_one (d := d) h.1
    obtain ⟨ks, es⟩ := keys_all h.2
    exact ⟨k :: ks, by simp only [toKeys, e, es]⟩
theorem keyOk_tup {d : D} (h : keyOk true d = true) : ∃ ds k, asTup d = some ds ∧ toKeys ds = some k := by
  simp only [keyOk, if_true] at h
  split at h
  · rename_i ds e
    obtain ⟨k, e2⟩ := keys_all h
    exact ⟨ds, k, e, e2⟩
  · cases h
theorem asTup_toP {d : D} {ds : List D} (h : asTup d = some ds) : d.toP = .tuple (D.toPs ds) := by
  cases d with
  | tup es => cases h; simp [D.toP]
  | key es => cases h; simp [D.toP]
  | _ => cases h
theorem asTup_is {d : D} {ds : List D} {v : V} (h : asTup d = some ds) (i : Is Z φ G d v) : ∃ a vs, v = .ref a ∧ SqT Z.K G a vs ∧ Iss Z φ G ds vs := by
  cases d with
  | tup es =>
    cases h
    rw [Is] at i
    obtain ⟨a, vs, h1, h2, h3⟩ := i
    exact ⟨a, vs, h1, h2.sqT, h3⟩
  | key es =>
    cases h
    rw [Is] at i
    obtain ⟨a, vs, h1, h2, h3⟩ := i
    exact ⟨a, vs, h1, SqT.of h2, h3⟩
  | _ => cases h
/-! ### dicts -/
theorem kis_look : ∀ {kvs : List (D × D)} {ws : List (Key × V)} {k : D} {kk : Key}, KIs Z φ G kvs ws → toKey k = some kk →
    (∀ d, look kvs k = some d → ∃ v, valV ws kk = some v ∧ Is Z φ G d v) ∧ (look kvs k = none → valV ws kk = none)
  | [], ws, k, kk, h, e => by
    cases h
    exact ⟨fun d q => (by cases q), fun _ => rfl⟩
  | (k', d') :: r, ws, k, kk, ⟨kk', v, ws', h1, h2, h3, h4, h5⟩, e => by
    subst h1
    obtain ⟨i1, i2⟩ := kis_look h5 e
    have q := key_eqv h2 e
    by_cases hk : kk' = kk
    · have q' : D.eqv k' k = true := by rw [q, decide_eq_true hk]
      refine ⟨fun d x => ?_, fun x => ?_⟩
      · simp only [look, q', if_true, Option.some.injEq] at x
        subst x
        exact ⟨v, valV_pos hk, h4⟩
      · simp [look, q'] at x
    · have q' : D.eqv k' k = false := by rw [q, decide_eq_false hk]
      rw [valV_neg (p := (kk', v)) hk]
      refine ⟨fun d x => i1 d ?_, fun x => i2 ?_⟩
      · simpa [look, q'] using x
      · simpa [look, q'] using x
theorem tis_look : ∀ {kvs : List (D × D)} {ws : List (List Key × V)} {x : D} {k : List D} {kk : List Key}, TIs Z φ G kvs ws → x.toP = .tuple (D.toPs k) → toKeys k = some kk →
    (∀ d, look kvs x = some d → ∃ v, valV ws kk = some v ∧ Is Z φ G d v) ∧ (look kvs x = none → valV ws kk = none)
  | [], ws, x, k, kk, h, _, e => by
    cases h
    exact ⟨fun d q => (by cases q), fun _ => rfl⟩
  | (k', d') :: r, ws, x, k, kk, ⟨ks', kk', v, ws', h1, h0, h2, h3, h4, h5⟩, hx, e => by
    subst h1 h0
    obtain ⟨i1, i2⟩ := tis_look h5 hx e
    have q := tkey_eqv (x := .key ks') (by simp [D.toP]) hx h2 e
    by_cases hk : kk' = kk
    · have q' : D.eqv (.key ks') x = true := by rw [q, decide_eq_true hk]
      refine ⟨fun d y => ?_, fun y => ?_⟩
      · simp only [look, q', if_true, Option.some.injEq] at y
        subst y
        exact ⟨v, valV_pos hk, h4⟩
      · simp [look, q'] at y
    · have q' : D.eqv (.key ks') x = false := by rw [q, decide_eq_false hk]
      rw [valV_neg (p := (kk', v)) hk]
      refine ⟨fun d y => i1 d ?_, fun y => i2 ?_⟩
      · simpa [look, q'] using y
      · simpa [look, q'] using y
theorem kis_length : ∀ {kvs : List (D × D)} {ws : List (Key × V)}, KIs Z φ G kvs ws → kvs.length = ws.length
  | [], ws, h => by cases h; rfl
  | (k', d') :: r, ws, ⟨kk', v, ws', h1, h2, h3, h4, h5⟩ => by
    subst h1
    simp [kis_length h5]
theorem tis_length : ∀ {kvs : List (D × D)} {ws : List (List Key × V)}, TIs Z φ G kvs ws → kvs.length = ws.length
  | [], ws, h => by cases h; rfl
  | (k', d') :: r, ws, ⟨_, kk', v, ws', h1, h2, h3, h4, h5, h6⟩ => by
    subst h1
    simp [tis_length h6]
/-- a key that is asked: it is the tracked tuple, or a scalar -/
theorem RepM.dict (m : RepM Z φ M H) {n : Nat} {a : Addr} {tk : Bool} {kvs : List (D × D)} (e : M[n]? = some (.dict tk kvs)) (h : φ.s[n]? = some a) :
    (tk = false ∧ ∃ ws, H a = some (.dK ws) ∧ KIs Z φ (out φ H) kvs ws) ∨ (tk = true ∧ ∃ ws, H a = some (.dT ws) ∧ TIs Z φ (out φ H) kvs ws) := by
  obtain ⟨b, ho, h1, h2, h3⟩ := m.at_ n _ e
  rw [h] at h1
  cases h1
  cases tk with
  | false =>
    obtain ⟨ws, e1, e2⟩ := h3
    exact .inl ⟨rfl, ws, by rw [h2, e1], e2⟩
  | true =>
    obtain ⟨ws, e1, e2⟩ := h3
    exact .inr ⟨rfl, ws, by rw [h2, e1], e2⟩
/-- HandS's DGet, for a key tuple of any kind -/
def DGetF (K : PySem.W.Frag) (H : Hp) (a : Addr) (y : V) (r : Option V) : Prop :=
  (∃ kvs k, Rd H a (.dK kvs) ∧ y = kV k ∧ r = valV kvs k) ∨ ∃ kvs k b, Rd H a (.dT kvs) ∧ y = .ref b ∧ SqT K H b (k.map kV) ∧ r = valV kvs k
theorem keyF {pins : List (Addr × Obj)} {s : Shared} {k : List Key} {b : Addr} (I : Inv X pins σ H s) (h : SqT X.K H b (k.map kV)) : (tupleKind (mixKind X.prog X.w)).is s.heap k b := by
  obtain ⟨its, r, ⟨o, h1, h2, n, h3⟩, _⟩ := I.tuple h
  exact ⟨o, its.toArray, n, h1, h2, h3, by simpa using items_are r⟩
section
variable {pins : List (Addr × Obj)} {s : Shared} {a : Addr} {y v : V} {u r : Value} {o : Option V} {A : Around} {E : Value → Shared → Prop}
theorem dictF_typeIs (I : Inv X pins σ H s) (g : DGetF X.K H a y o) : s.TypeIs (.ref a) "dict" := by
  rcases g with ⟨kvs, k, e, _, _⟩ | ⟨kvs, k, b, e, _, _, _⟩
  · obtain ⟨_, _, vs, _, dd⟩ := dk_rd I.hok e
    exact dd.typeIs
  · obtain ⟨_, _, xs, _, dd⟩ := dt_rd I.hok e
    exact dd.typeIs
theorem dF_getItem {Q : Value → Shared → Prop} (hu : A.units + 1 < cLine) (I : Inv X pins σ H s) (g : DGetF X.K H a y (some v)) (ry : RelV y u) (h : ∀ w' s', Inv X pins σ H s' → RelV v w' → Q w' s') :
    wpAny (model X.prog X.w) A (getItem (.ref a) u) Q E s := by
  rcases g with ⟨kvs, k, e, ey, l⟩ | ⟨kvs, k, b, e, ey, eb, l⟩
  · subst ey
    obtain ⟨z, hd, vs, rel, dd⟩ := dk_rd I.hok e
    obtain ⟨w', hw, rw'⟩ := RelO.some_of (v := v) (o := valueAt vs k) (by rw [l]; exact rel.val k)
    exact wpAny_getItem_of (kV_is ry) dd.mapOf hw (h w' _ (I.tok _) rw')
  · subst ey
    cases (show u = Value.ref b from ry)
    obtain ⟨z, hd, xs, rel, dd⟩ := dt_rd I.hok e
    obtain ⟨w', hw, rw'⟩ := RelO.some_of (v := v) (o := (atKey xs k).map (·.2)) (by rw [l]; exact rel.val k)
    obtain ⟨p, hp, hp2⟩ := Option.map_eq_some_iff.mp hw
    refine wpAny_getItem_heap (tupleKind_room_in1 hu) (keyF I eb) dd hp ?_
    rw [hp2]
    exact h w' _ (I.tok _) rw'
theorem dF_in {Q : Value → Shared → Prop} (hu : A.units + 1 < cLine) (I : Inv X pins σ H s) (g : DGetF X.K H a y o) (ry : RelV y u) (h : ∀ s', Inv X pins σ H s' → Q (.bool o.isSome) s') :
    wpAny (model X.prog X.w) A (compareOp .In u (.ref a)) Q E s := by
  rcases g with ⟨kvs, k, e, ey, l⟩ | ⟨kvs, k, b, e, ey, eb, l⟩
  · subst ey
    obtain ⟨z, hd, vs, rel, dd⟩ := dk_rd I.hok e
    refine wpAny_in_of (kV_is ry) hd dd.mapOf ?_
    rw [← (rel.val k).isSome_eq, ← l]
    exact h _ (I.tok _)
  · subst ey
    cases (show u = Value.ref b from ry)
    obtain ⟨z, hd, xs, rel, dd⟩ := dt_rd I.hok e
    refine wpAny_in_heap (tupleKind_room_in1 hu) (keyF I eb) hd dd ?_
    have q := (rel.val k).isSome_eq
    rw [Option.isSome_map] at q
    rw [← q, ← l]
    exact h _ (I.tok _)
theorem dF_notIn {Q : Value → Shared → Prop} (hu : A.units + 1 < cLine) (I : Inv X pins σ H s) (g : DGetF X.K H a y o) (ry : RelV y u) (h : ∀ s', Inv X pins σ H s' → Q (.bool (!o.isSome)) s') :
    wpAny (model X.prog X.w) A (compareOp .NotIn u (.ref a)) Q E s := by
  rcases g with ⟨kvs, k, e, ey, l⟩ | ⟨kvs, k, b, e, ey, eb, l⟩
  · subst ey
    obtain ⟨z, hd, vs, rel, dd⟩ := dk_rd I.hok e
    refine wpAny_notIn_of (kV_is ry) hd dd.mapOf ?_
    rw [← (rel.val k).isSome_eq, ← l]
    exact h _ (I.tok _)
  · subst ey
    cases (show u = Value.ref b from ry)
    obtain ⟨z, hd, xs, rel, dd⟩ := dt_rd I.hok e
    refine wpAny_notIn_heap (tupleKind_room_in1 hu) (keyF I eb) hd dd ?_
    have q := (rel.val k).isSome_eq
    rw [Option.isSome_map] at q
    rw [← q, ← l]
    exact h _ (I.tok _)
end
theorem dget_of (hK : X.K = Z.K) (m : RepM Z φ M H) {n : Nat} {a : Addr} {tk : Bool} {kvs : List (D × D)} {k : D} {y : V} (e : M[n]? = some (.dict tk kvs)) (h : φ.s[n]? = some a) (ok : keyOk tk k = true) (i : Is Z φ (out φ H) k y) :
    ∃ o, DGetF X.K H a y o ∧ (∀ d, look kvs k = some d → ∃ v, o = some v ∧ Is Z φ (out φ H) d v) ∧ (look kvs k = none → o = none) := by
  rcases m.dict e h with ⟨rfl, ws, e1, e2⟩ | ⟨rfl, ws, e1, e2⟩
  · obtain ⟨kk, hk⟩ := keyOk_one ok
    obtain ⟨rfl, _⟩ := is_key i hk
    exact ⟨_, .inl ⟨ws, kk, .inl e1, rfl, rfl⟩, kis_look e2 hk⟩
  · obtain ⟨ks, kk, h0, hk⟩ := keyOk_tup ok
    obtain ⟨b, vs, rfl, h1, h2⟩ := asTup_is h0 i
    obtain ⟨rfl, _⟩ := iss_keys h2 hk
    exact ⟨_, .inr ⟨ws, kk, b, .inl e1, rfl, by rw [hK]; exact sqT_out h1, rfl⟩, tis_look e2 (asTup_toP h0) hk⟩
end
end DL
end
section
set_option Elab.async false
set_option linter.all false
set_option maxRecDepth 100000
set_option autoImplicit false
set_option maxHeartbeats 4000000
/-! DL6: membership, subscripts, truth, lengths, conversions, isinstance, slices. -/
namespace DL
open PySem PySem.Spec PyProof.Rows L2 LamX

section
variable {Z : Fix} {X : Cx} {φ : Ph} {G H : Hp} {M : Store} {W : WX} {σ : L2.St}
/-! ### in, not in -/
def rInT (K : PySem.W.Frag) : R2 := fun x y H Q => ∃ d ds, Dp K H x d ∧ Dp K H y (.tuple ds) ∧ SeqAt.shaped d = true ∧ SeqAt.shaped (.tuple ds) = true ∧ Q (.bl (ds.any fun z => PyData.eqv z d)) H
def rNotInT (K : PySem.W.Frag) : R2 := fun x y H Q => ∃ d ds, Dp K H x d ∧ Dp K H y (.tuple ds) ∧ SeqAt.shaped d = true ∧ SeqAt.shaped (.tuple ds) = true ∧ Q (.bl (!ds.any fun z => PyData.eqv z d)) H
theorem op_inT (hu : X.A.units + 65 < cLine) : OpR X (compareOp .In) (rInT X.K) := by
  intro pins s σ H x y v u Q I rx ry h
  obtain ⟨d, ds, hd, he, sd, se, q⟩ := h
  obtain ⟨as, r1⟩ := Dp.reads I d x v hd rx
  obtain ⟨bs, r2⟩ := Dp.reads I (.tuple ds) y u he ry
  exact SeqAt.in_tuple_reads r2 r1 (SeqAt.canLay_of_shaped se) (SeqAt.canLay_of_shaped sd) (room_in_shaped sd hu) ⟨.bl _, H, I, rfl, q⟩
theorem op_notInT (hu : X.A.units + 65 < cLine) : OpR X (compareOp .NotIn) (rNotInT X.K) := by
  intro pins s σ H x y v u Q I rx ry h
  obtain ⟨d, ds, hd, he, sd, se, q⟩ := h
  obtain ⟨as, r1⟩ := Dp.reads I d x v hd rx
  obtain ⟨bs, r2⟩ := Dp.reads I (.tuple ds) y u he ry
  exact SeqAt.notIn_tuple_reads r2 r1 (SeqAt.canLay_of_shaped se) (SeqAt.canLay_of_shaped sd) (room_in_shaped sd hu) ⟨.bl _, H, I, rfl, q⟩
def rInDi (K : PySem.W.Frag) (neg : Bool) : R2 := fun x y H Q => ∃ a o, y = .ref a ∧ DGetF K H a x o ∧ Q (.bl (if neg then !o.isSome else o.isSome)) H
theorem op_inDi (hu : X.A.units + 1 < cLine) : OpR X (compareOp .In) (rInDi X.K false) := by
  intro pins s σ H x y v u Q I rx ry h
  obtain ⟨a, o, rfl, g, q⟩ := h
  cases ry
  exact dF_in hu I g rx fun s3 I3 => ⟨.bl o.isSome, H, I3, rfl, q⟩
theorem op_notInDi (hu : X.A.units + 1 < cLine) : OpR X (compareOp .NotIn) (rInDi X.K true) := by
  intro pins s σ H x y v u Q I rx ry h
  obtain ⟨a, o, rfl, g, q⟩ := h
  cases ry
  exact dF_notIn hu I g rx fun s3 I3 => ⟨.bl (!o.isSome), H, I3, rfl, q⟩
/-- what membership gives, as HandS asks it -/
theorem isin_of {X : Cx} (K : PySem.W.Frag) (hX : K = X.K) (hK : K = Z.K) (m : RepM Z φ M H) {d e : D} {x y : V} {b : Bool} (i : Is Z φ (out φ H) d x) (j : Is Z φ (out φ H) e y) (h : ev2.isinD M d e = some b) :
    (∃ (c : Nat) (z : Str), x = .str ⟨#[c]⟩ ∧ y = .str z ∧ b = decide (c ∈ z.cps.toList)) ∨
    (∃ d ds, Dp K H x d ∧ Dp K H y (.tuple ds) ∧ SeqAt.shaped d = true ∧ SeqAt.shaped (.tuple ds) = true ∧ b = ds.any fun z => PyData.eqv z d) ∨
    (∃ d ds, Dp K H x d ∧ Dp K H y (.list ds) ∧ SeqAt.shaped d = true ∧ SeqAt.shaped (.list ds) = true ∧ b = ds.any fun z => PyData.eqv z d) ∨
    (∃ a o, y = .ref a ∧ DGetF K H a x o ∧ b = o.isSome) := by
  have anyP : ∀ (ds : List D) (e : D), (D.toPs ds).any (fun z => PyData.eqv z e.toP) = ds.any fun z => z.eqv e := by
    intro ds e
    induction ds with
    | nil => simp [D.toPs]
    | cons a r ih => simp [D.toPs, ih, D.eqv]
  unfold ev2.isinD at h
  split at h
  · rename_i t e1
    split at h
    · rename_i c
      obtain ⟨rfl, s1⟩ := rv_strK m j e1
      rw [(is_str i).1]
      cases h
      exact .inl ⟨c, _, rfl, rfl, by simp⟩
    · cases h
  · rename_i ds e1
    split at h
    · rename_i ok
      simp only [Bool.and_eq_true] at ok
      obtain ⟨a1, a2⟩ := rv_dp K hK m i ok.2
      obtain ⟨a, vs, rfl, h1, h2⟩ := rv_tupK m j e1
      cases h
      have pl : D.plains ds = true := by
        have := ok.1
        simp only [D.okEq, D.plain, Bool.and_eq_true] at this
        exact this.1
      have dp : D.depths ds + 1 ≤ 64 := by
        have := ok.1
        simp only [D.okEq, D.depth, Bool.and_eq_true] at this
        exact of_decide_eq_true this.2
      refine .inr (.inl ⟨_, D.toPs ds, a1, .tup (by rw [hK]; exact sqT_out h1) (Iss.dp K hK ds vs pl h2), a2, ?_, (anyP _ _).symm⟩)
      show (PyData.canLay0 _ && decide (PyData.depth _ ≤ 64)) = true
      rw [Bool.and_eq_true, decide_eq_true_eq]
      refine ⟨by simp only [PyData.canLay0]; exact Iss.lay ds vs pl h2, by simp only [PyData.depth]; rw [depths_toP]; exact dp⟩
    · cases h
  · rename_i ds e1
    split at h
    · rename_i ok
      simp only [Bool.and_eq_true] at ok
      obtain ⟨a1, a2⟩ := rv_dp K hK m i ok.2
      obtain ⟨a, vs, rfl, h1, h2⟩ := rv_lstK m j e1
      cases h
      have pl : D.plains ds = true := by
        have := ok.1
        simp only [D.okEq, D.plain, Bool.and_eq_true] at this
        exact this.1
      have dp : D.depths ds + 1 ≤ 64 := by
        have := ok.1
        simp only [D.okEq, D.depth, Bool.and_eq_true] at this
        exact of_decide_eq_true this.2
      refine .inr (.inr (.inl ⟨_, D.toPs ds, a1, .lst (SqL.of h1) (Iss.dp K hK ds vs pl h2), a2, ?_, (anyP _ _).symm⟩))
      show (PyData.canLay0 _ && decide (PyData.depth _ ≤ 64)) = true
      rw [Bool.and_eq_true, decide_eq_true_eq]
      refine ⟨by simp only [PyData.canLay0]; exact Iss.lay ds vs pl h2, by simp only [PyData.depth]; rw [depths_toP]; exact dp⟩
    · cases h
  · rename_i n e1
    split at h
    · rename_i tk kvs e2
      split at h
      · rename_i ok
        obtain ⟨rfl, _⟩ := rk_ref e1
        rw [Is] at j
        obtain ⟨a, rfl, ha⟩ := j
        obtain ⟨o, g, g1, g2⟩ := dget_of (X := X) (by rw [← hX, hK]) m e2 ha ok i
        rw [← hX] at g
        cases h
        refine .inr (.inr (.inr ⟨a, o, rfl, g, ?_⟩))
        cases q : look kvs d with
        | none => rw [g2 q]; rfl
        | some z =>
          obtain ⟨v, e, _⟩ := g1 z q
          rw [e]
          rfl
      · cases h
    · cases h
  · cases h
theorem o2_in (hK : X.K = Z.K) (hu : X.A.units + 65 < cLine) : OpR X (compareOp .In) (rO2 Z .isin) := by
  refine OpR.imp (op_in_sign.or ((op_inT hu).or ((op_inD hu).or (op_inDi (by omega))))) fun x y H Q ⟨φ, M, d, e, W, σ, m, i, j, q⟩ => ?_
  simp only [ev2] at q
  cases h : ev2.isinD M d e with
  | none => rw [h] at q; exact q.elim
  | some b =>
    rw [h] at q
    have q' := q.bl m
    rcases isin_of (X := X) X.K rfl hK m i j h with ⟨c, z, h1, h2, h3⟩ | ⟨d, ds, h1, h2, h3, h4, h5⟩ | ⟨d, ds, h1, h2, h3, h4, h5⟩ | ⟨a, o, h1, h2, h3⟩
    · exact .inl ⟨c, z, h1, h2, by rw [← h3]; exact q'⟩
    · exact .inr (.inl ⟨d, ds, h1, h2, h3, h4, by rw [← h5]; exact q'⟩)
    · exact .inr (.inr (.inl ⟨d, ds, h1, h2, h3, h4, by rw [← h5]; exact q'⟩))
    · exact .inr (.inr (.inr ⟨a, o, h1, h2, by rw [← h3] at *; exact q'⟩))
theorem o2_notin (hK : X.K = Z.K) (hu : X.A.units + 65 < cLine) : OpR X (compareOp .NotIn) (rO2 Z .notin) := by
  refine OpR.imp (op_notIn_sign.or ((op_notInT hu).or ((op_notInD hu).or (op_notInDi (by omega))))) fun x y H Q ⟨φ, M, d, e, W, σ, m, i, j, q⟩ => ?_
  simp only [ev2] at q
  cases h : ev2.isinD M d e with
  | none => rw [h] at q; exact q.elim
  | some b =>
    rw [h] at q
    have q' := q.bl m
    rcases isin_of (X := X) X.K rfl hK m i j h with ⟨c, z, h1, h2, h3⟩ | ⟨d, ds, h1, h2, h3, h4, h5⟩ | ⟨d, ds, h1, h2, h3, h4, h5⟩ | ⟨a, o, h1, h2, h3⟩
    · exact .inl ⟨c, z, h1, h2, by rw [← h3]; exact q'⟩
    · exact .inr (.inl ⟨d, ds, h1, h2, h3, h4, by rw [← h5]; exact q'⟩)
    · exact .inr (.inr (.inl ⟨d, ds, h1, h2, h3, h4, by rw [← h5]; exact q'⟩))
    · exact .inr (.inr (.inr ⟨a, o, h1, h2, by rw [← h3] at *; exact q'⟩))
/-! ### subscripts -/
theorem subTail {prog : Program} {w : World} {A : Around} {E : Value → Shared → Prop} {s : Shared} {value slice : Expr} {o i : Value} {T id : String} {Q : Value → Shared → Prop} (hT : s.TypeIs o T)
    (hl : typeLookup (.type T) "__getitem__" = pure (some (.builtin id))) (h : wpAny (model prog w) A (getItem o i) Q E s) (hs : subscripted slice false o i = operate [o, i] (getItem o i)) :
    wpAny (model prog w) A (subscriptTail value slice o i) Q E s := by
  unfold subscriptTail
  refine wpAny_bind ?_
  rw [getitemInPython_of_ne hT.not_modules]
  refine wpAny_bind (wpAny_specialOf hT hl ?_)
  have fin : wpAny (model prog w) A (subscripted slice false o i) (fun r s₃ => wpAny (model prog w) A (letTemporaryGo value o r >>= fun _ => pure r) Q E s₃) E s := by
    rw [hs]
    exact wpAny_operating (wpAny_mono h (fun r s₃ h₃ => wpAny_bind (wpAny_letTemporaryGo (wpAny_pure h₃))) fun _ _ x => x)
  first
    | exact wpAny_pure (wpAny_bind fin)
    | exact wpAny_bind (wpAny_pure (wpAny_bind fin))
    | exact wpAny_bind fin
def rIxD (K : PySem.W.Frag) : R2 := fun x y H Q => ∃ a v, x = .ref a ∧ DGetF K H a y (some v) ∧ Q v H
theorem ix_dict (hu : X.A.units + 1 < cLine) : IxR X (rIxD X.K) := by
  intro value slice pins s σ H x y v u Q I rx ry h hs
  obtain ⟨a, z, rfl, g, q⟩ := h
  cases rx
  have := dF_getItem (A := X.A) (E := X.xe) (Q := fun w' s' => EP X pins σ Q w' s') hu I g ry fun w' s3 I3 rw' => ⟨z, H, I3, rw', q⟩
  exact subTail (dictF_typeIs I g) PySem.F.slot_dict_getitem.lookup this hs
theorem atI_iss {ds : List D} {vs : List V} {i : Int} {d : D} (h : Iss Z φ G ds vs) (e : nth ds i = some d) : ∃ v, atI vs i = some v ∧ Is Z φ G d v := by
  unfold nth atI at *
  rw [← h.length]
  cases q : ixN ds.length i with
  | none => rw [q] at e; cases e
  | some j =>
    rw [q] at e
    exact h.get e
theorem o2_ix (hK : X.K = Z.K) (hu : X.A.units + 1 < cLine) : IxR X (rO2 Z .ix) := by
  refine IxR.imp (ix_list.or (ix_tup.or (ix_str.or (ix_dict hu)))) fun x y H Q ⟨φ, M, d, e, W, σ, m, i, j, q⟩ => ?_
  simp only [ev2] at q
  split at q
  · rename_i ds k e1
    cases h : nth ds k with
    | none => rw [h] at q; exact q.elim
    | some z =>
      rw [h] at q
      obtain ⟨a, vs, rfl, h1, h2⟩ := rv_tupK m i e1
      obtain ⟨v, e2, e3⟩ := atI_iss h2 h
      exact .inr (.inl ⟨a, vs, k, v, rfl, is_int j, by rw [hK]; exact sqT_out h1, e2, q.fin m e3⟩)
  · rename_i ds k e1
    cases h : nth ds k with
    | none => rw [h] at q; exact q.elim
    | some z =>
      rw [h] at q
      obtain ⟨a, vs, rfl, h1, h2⟩ := rv_lstK m i e1
      obtain ⟨v, e2, e3⟩ := atI_iss h2 h
      exact .inl ⟨a, vs, k, v, rfl, is_int j, SqL.of h1, e2, q.fin m e3⟩
  · rename_i ds k e1
    split at q
    · rename_i hl
      obtain ⟨rfl, s1⟩ := rv_strK m i e1
      cases h : nth ds k with
      | none => rw [h] at q; exact q.elim
      | some c =>
        rw [h] at q
        refine .inr (.inr (.inl ⟨_, k, c, rfl, is_int j, by rw [cs_len, ← line_eq]; exact hl, by rw [cs_tl]; exact h, q.str m ?_⟩))
        have : c ∈ ds := by
          unfold nth atI at h
          cases q : ixN ds.length k with
          | none => rw [q] at h; cases h
          | some j =>
            rw [q] at h
            exact List.mem_of_getElem? h
        simp only [List.all_cons, List.all_nil, Bool.and_true]
        exact List.all_eq_true.mp s1 c this
    · exact q.elim
  · rename_i e _ _ n e1
    split at q
    · rename_i tk kvs e2
      split at q
      · rename_i ok
        obtain ⟨rfl, _⟩ := rk_ref e1
        rw [Is] at i
        obtain ⟨a, rfl, ha⟩ := i
        obtain ⟨o, g, g1, g2⟩ := dget_of hK m e2 ha ok j
        cases h : look kvs e with
        | none => rw [h] at q; exact q.elim
        | some z =>
          rw [h] at q
          obtain ⟨v, rfl, e3⟩ := g1 z h
          exact .inr (.inr (.inr ⟨a, v, rfl, g, q.fin m e3⟩))
      · exact q.elim
    · exact q.elim
  · exact q.elim
/-! ### truth -/
theorem truV (m : RepM Z φ M H) (K : PySem.W.Frag) (hK : K = Z.K) {d : D} {x : V} {b : Bool} (i : Is Z φ (out φ H) d x) (h : truth M d = some b) : TruV K x H b := by
  unfold truth at h
  split at h
  · rename_i e
    have : d = .non := by
      have e := rk_ne e fun _ q => by cases q
      cases d with
      | ref n => rcases rd_two (M := M) n with ⟨ds, q⟩ | q
                 · rw [rd_lst q] at e; cases e
                 · rw [rd_no q] at e; cases e
      | non => rfl
      | _ => cases e
    subst this
    cases h
    rw [is_non i]
    rfl
  · rename_i k e
    have : d = .bl k := by
      have e := rk_ne e fun _ q => by cases q
      cases d with
      | ref n => rcases rd_two (M := M) n with ⟨ds, q⟩ | q
                 · rw [rd_lst q] at e; cases e
                 · rw [rd_no q] at e; cases e
      | bl k => exact e
      | _ => cases e
    subst this
    cases h
    rw [is_bl i]
    rfl
  · rename_i k e
    cases h
    rw [rv_intK m i e]
    rfl
  · rename_i t e
    split at h
    · rename_i hl
      cases h
      rw [(rv_strK m i e).1]
      refine ⟨by rw [cs_len, ← line_eq]; exact hl, ?_⟩
      rw [cs_len]
      cases t with
      | nil => rfl
      | cons c r => simp; omega
    · cases h
  · rename_i ds e
    obtain ⟨a, vs, rfl, h1, h2⟩ := rv_tupK m i e
    cases h
    refine .inr (.inl ⟨vs, by rw [hK]; exact sqT_out h1, ?_⟩)
    have := h2.length
    cases ds <;> cases vs <;> simp_all
  · rename_i ds e
    obtain ⟨a, vs, rfl, h1, h2⟩ := rv_lstK m i e
    cases h
    refine .inl ⟨vs, SqL.of h1, ?_⟩
    have := h2.length
    cases ds <;> cases vs <;> simp_all
  · cases h
end
end DL
end
section
set_option Elab.async false
set_option linter.all false
set_option maxRecDepth 100000
set_option autoImplicit false
set_option maxHeartbeats 4000000
/-! DL7: lengths, conversions, all/any/sum, isinstance, slices, join, index. -/
namespace DL
open PySem PySem.Spec PyProof.Rows L2 LamX

section
variable {Z : Fix} {X : Cx} {φ : Ph} {G H : Hp} {M : Store} {W : WX} {σ : L2.St}
theorem kis_len : ∀ {kvs : List (D × D)} {ws : List (Key × V)}, KIs Z φ G kvs ws → kvs.length = ws.length
  | [], ws, h => by
    cases (show ws = [] from h)
    rfl
  | (k, d) :: r, ws, h => by
    obtain ⟨kk, v, ws', h1, _, _, _, h5⟩ := h
    subst h1
    simp [kis_len h5]
theorem tis_len : ∀ {kvs : List (D × D)} {ws : List (List Key × V)}, TIs Z φ G kvs ws → kvs.length = ws.length
  | [], ws, h => by
    cases (show ws = [] from h)
    rfl
  | (k, d) :: r, ws, h => by
    obtain ⟨ks, kk, v, ws', h1, _, _, _, _, h5⟩ := h
    subst h1
    simp [tis_len h5]
theorem un1_neg : UnR X (unaryOp .USub) (rO1 Z .neg) := by
  refine UnR.imp un_neg fun x H Q ⟨φ, M, d, W, σ, m, i, q⟩ => ?_
  simp only [ev1] at q
  split at q
  · exact ⟨_, is_int i, q.int m⟩
  · exact q.elim
theorem c1_len (hK : X.K = Z.K) : CallR X (.builtin "len") (rC1 Z .len) := by
  refine CallR.imp (call_len_seq.or (call_len_str.or (call_lenD.or call_len_dT))) fun xs H Q ⟨x, e0, φ, M, d, W, σ, m, i, q⟩ => ?_
  subst e0
  simp only [ev1] at q
  split at q
  · rename_i t e
    split at q
    · rename_i hl
      obtain ⟨rfl, s1⟩ := rv_strK m i e
      refine .inr (.inl ⟨_, rfl, by rw [cs_len, ← line_eq]; exact hl, ?_⟩)
      rw [cs_len]
      exact q.int m
    · exact q.elim
  · rename_i ds e
    obtain ⟨a, vs, rfl, h1, h2⟩ := rv_tupK m i e
    refine .inl ⟨a, vs, rfl, .inr (by rw [hK]; exact sqT_out h1), ?_⟩
    rw [← h2.length]
    exact q.int m
  · rename_i ds e
    obtain ⟨a, vs, rfl, h1, h2⟩ := rv_lstK m i e
    refine .inl ⟨a, vs, rfl, .inl (SqL.of h1), ?_⟩
    rw [← h2.length]
    exact q.int m
  · rename_i n e
    split at q
    · rename_i tk kvs e2
      obtain ⟨rfl, _⟩ := rk_ref e
      rw [Is] at i
      obtain ⟨a, rfl, ha⟩ := i
      rcases m.dict e2 ha with ⟨rfl, ws, e1, e3⟩ | ⟨rfl, ws, e1, e3⟩
      · refine .inr (.inr (.inl ⟨a, ws, rfl, e1, ?_⟩))
        rw [← kis_len e3]
        exact q.int m
      · refine .inr (.inr (.inr ⟨a, ws, rfl, e1, ?_⟩))
        rw [← tis_len e3]
        exact q.int m
    · exact q.elim
  · exact q.elim
theorem c1_int : CallR X (.type "int") (rC1 Z .int) := by
  refine CallR.imp call_int1 fun xs H Q ⟨x, e0, φ, M, d, W, σ, m, i, q⟩ => ?_
  subst e0
  simp only [ev1] at q
  split at q
  · rw [is_int i]
    exact .inl ⟨_, rfl, q.int m⟩
  · rw [is_bl i]
    exact .inr ⟨_, rfl, q.int m⟩
  · exact q.elim
theorem c1_bool : CallR X (.type "bool") (rC1 Z .bool) := by
  refine CallR.imp call_bool1 fun xs H Q ⟨x, e0, φ, M, d, W, σ, m, i, q⟩ => ?_
  subst e0
  simp only [ev1] at q
  split at q
  · rw [is_bl i]
    exact .inr ⟨_, rfl, q.bl m⟩
  · rw [is_int i]
    exact .inl ⟨_, rfl, q.bl m⟩
  · exact q.elim
theorem c1_all (hK : X.K = Z.K) (hc : X.calm = true) : CallR X (.builtin "all") (rC1 Z .all) := by
  refine CallR.imp (cr_all hc) fun xs H Q ⟨x, e0, φ, M, d, W, σ, m, i, q⟩ => ?_
  subst e0
  simp only [ev1] at q
  split at q
  · rename_i ds e
    obtain ⟨a, vs, rfl, h1, h2⟩ := rv_lst m i e
    cases h : allB ds with
    | none => rw [h] at q; exact q.elim
    | some b =>
      rw [h] at q
      obtain ⟨bs, e1, e2⟩ := h2.bls h
      subst e1 e2
      exact ⟨a, bs, rfl, SqL.of h1, q.bl m⟩
  · exact q.elim
theorem c1_any (hK : X.K = Z.K) (hc : X.calm = true) : CallR X (.builtin "any") (rC1 Z .any) := by
  refine CallR.imp (cr_any hc) fun xs H Q ⟨x, e0, φ, M, d, W, σ, m, i, q⟩ => ?_
  subst e0
  simp only [ev1] at q
  split at q
  · rename_i ds e
    obtain ⟨a, vs, rfl, h1, h2⟩ := rv_lst m i e
    cases h : anyB ds with
    | none => rw [h] at q; exact q.elim
    | some b =>
      rw [h] at q
      obtain ⟨bs, e1, e2⟩ := h2.blsA h
      subst e1 e2
      exact ⟨a, bs, rfl, SqL.of h1, q.bl m⟩
  · exact q.elim
theorem c1_sum (hK : X.K = Z.K) (hc : X.calm = true) : CallR X (.builtin "sum") (rC1 Z .sum) := by
  refine CallR.imp (cr_sum hc) fun xs H Q ⟨x, e0, φ, M, d, W, σ, m, i, q⟩ => ?_
  subst e0
  simp only [ev1] at q
  split at q
  · rename_i ds e
    obtain ⟨a, vs, rfl, h1, h2⟩ := rv_lst m i e
    cases h : intsOf ds with
    | none => rw [h] at q; exact q.elim
    | some b =>
      rw [h] at q
      obtain ⟨e1, e2⟩ := h2.intsOf h
      subst e1
      exact ⟨a, b, rfl, SqL.of h1, q.int m⟩
  · exact q.elim
theorem c1_list (hK : X.K = Z.K) : CallR X (.type "list") (rC1 Z .list) := by
  refine CallR.imp call_list_of fun xs H Q ⟨x, e0, φ, M, d, W, σ, m, i, q⟩ => ?_
  subst e0
  simp only [ev1] at q
  split at q
  · rename_i ds e
    obtain ⟨a, vs, rfl, h1, h2⟩ := rv_tupK m i e
    exact ⟨a, vs, rfl, .inr (by rw [hK]; exact sqT_out h1), q.newL m h2⟩
  · rename_i ds e
    obtain ⟨a, vs, rfl, h1, h2⟩ := rv_lstK m i e
    exact ⟨a, vs, rfl, .inl (SqL.of h1), q.newL m h2⟩
  · exact q.elim
theorem c1_tupleK (hK : X.K = Z.K) : CallR X (.type "tuple") (rC1 Z .tupleK) := by
  refine CallR.imp call_tuple_of fun xs H Q ⟨x, e0, φ, M, d, W, σ, m, i, q⟩ => ?_
  subst e0
  simp only [ev1] at q
  split at q
  · rename_i ds e
    obtain ⟨a, vs, rfl, h1, h2⟩ := rv_lst m i e
    exact ⟨a, vs, rfl, .inl ⟨SqL.of h1, q.newK m h2⟩⟩
  · rename_i ds e
    have s := asTup_same (show asTup (rd M d) = some ds by rw [e]; rfl)
    obtain ⟨a, vs, rfl, h1, h2⟩ := rv_tup m i e
    rw [← e, s] at q
    exact ⟨a, vs, rfl, .inr ⟨by rw [hK]; exact sqT_out h1.sqT, q.fin m i⟩⟩
  · rename_i ds e
    have s := asTup_same (show asTup (rd M d) = some ds by rw [e]; rfl)
    obtain ⟨a, vs, rfl, h1, h2⟩ := rv_key m i e
    rw [← e, s] at q
    exact ⟨a, vs, rfl, .inr ⟨by rw [hK]; exact sqT_out (SqT.of h1), q.fin m i⟩⟩
  · exact q.elim
/-! ### tuple(text) -/
section
variable {prog : Program} {w : World} {A : Around} {E : Value → Shared → Prop} {s : Shared}
theorem tuple_new_text {Q₁ : Value → Shared → Prop} (hh : A.handled = none) (x : Str) (t : Tok) (hn : x.cps.size ≤ sizeLine)
    (h : ∀ (s' : Shared) (acc : Array Value), (∀ b o, s.heap.get? b = some o → s'.heap.get? b = some o) → s'.gens = s.gens → s'.drawn = s.drawn → s'.os = s.os → ItemsOf (SignAt x) acc x.cps.size →
      Q₁ (.ref s'.heap.objs.size) { s' with heap := s'.heap.push { cls := .type "tuple", data := .seq acc } }) :
    codeAny (model prog w) A (.call (.builtin "tuple.__new__") ⟨[.type "tuple", .str x t], []⟩) (wants Q₁ E) s := by
  refine codeAny_of_tree ?_
  show wpAny _ A.in1 (do checkBuiltinCall "tuple.__new__" ⟨[.type "tuple", .str x t], []⟩; again (.builtin "tuple.__new__" ⟨[.type "tuple", .str x t], []⟩)) _ _ s
  refine wpAny_bind (wpAny_of_eq (F.newCall_tuple_1 _) (wpAny_pure ⟨plainId_quiet F.plain_tuple_new _, codeAny_builtin F.entry_tuple_new ?_⟩))
  rw [Around.under_plainId F.plain_tuple_new _]
  have hsub := sub_tuple_self
  have hinit := init_tuple_lookup
  have hmh := madeHere_tuple
  have hTI : s.TypeIs (.str x t) "str" := typeIs_str s x t
  have hh1 : A.in1.handled = none := hh
  wp_walk using wpAny_typeOf hTI, wpAny_collect_str (A := A.in1) hh1 x t
  intro s' acc hk hg hd ho hacc
  show wpAny _ _ (Builtin.Tuple.tupleExact acc.toList.toArray >>= fun v => ret v) _ _ _
  unfold Builtin.Tuple.tupleExact
  refine wpAny_bind (wpAny_newObj_type ?_ (by show acc.toList.toArray.size ≤ sizeLine; simp only [Array.toArray_toList]; rw [hacc.1]; exact hn))
  refine wpAny_pure ?_
  have e : acc.toList.toArray = acc := by simp
  rw [e]
  exact h s' acc hk hg hd ho hacc
theorem tuple_text {Q : Value → Shared → Prop} (hh : A.handled = none) (x : Str) (t : Tok) (hn : x.cps.size ≤ sizeLine)
    (h : ∀ (s' : Shared) (acc : Array Value), (∀ b o, s.heap.get? b = some o → s'.heap.get? b = some o) → s'.gens = s.gens → s'.drawn = s.drawn → s'.os = s.os → ItemsOf (SignAt x) acc x.cps.size →
      Q (.ref s'.heap.objs.size) { s' with heap := s'.heap.push { cls := .type "tuple", data := .seq acc } }) :
    wpAny (model prog w) A (call (.type "tuple") [.str x t]) Q E s := by
  refine callType_codes (Q₁ := fun obj s₁ => s₁.TypeIs obj "tuple" ∧ Q obj s₁) F.called_tuple (F.typeCall_tuple_1 _) F.entry_object_init
    (tuple_new_text (A := A.in1) hh x t hn fun s' acc hk hg hd ho hacc => ⟨⟨_, Heap.get?_push_size _ rfl, rfl⟩, h s' acc hk hg hd ho hacc⟩) fun obj s₁ h₁ => ?_
  exact ⟨h₁.1, F.args_object_init_2 obj _, object_init_meets F.called_tuple.init.lookup F.called_tuple.made (by decide) prog w A.in1 _ s₁ ⟨h₁.1, rfl, h₁.2⟩⟩
end
theorem vals_signs (x : List Nat) {acc : Array Value} (h : ItemsOf (SignAt (cs x)) acc (cs x).cps.size) : Vals (x.map fun c => V.str ⟨#[c]⟩) acc.toList := by
  refine vals_of_at (by have e := h.1; simp at e; simp [e]) fun j v u hv hu => ?_
  have hu' : acc[j]? = some u := by rw [← Array.getElem?_toList]; exact hu
  obtain ⟨c, t, h1, h2⟩ := h.2 j u hu'
  rw [List.getElem?_map] at hv
  have : x[j]? = some c := by
    have e : (cs x).cps[j]? = x[j]? := by simp
    rw [← e]
    exact h1
  rw [this] at hv
  cases hv
  rw [h2]
  exact ⟨t, rfl⟩
theorem call_tupleS (hc : X.calm = true) : CallR X (.type "tuple") (fun xs H Q => ∃ x : List Nat, xs = [.str (cs x)] ∧ x.length ≤ sizeLine ∧ NewT H (x.map fun c => V.str ⟨#[c]⟩) Q) := by
  intro pins s σ H xs us Q I r h
  obtain ⟨x, rfl, hl, q⟩ := h
  obtain ⟨u, rfl, t, rfl⟩ := vals1 r
  refine tuple_text (I.ok.hd hc) (cs x) t (by simpa using hl) fun s' acc hk hg hd ho hacc => ?_
  have I1 : Inv X pins σ H s' := by
    have J := I.kept (t' := s'.toks) hk
    have e : s' = { s with heap := s'.heap, toks := s'.toks } := by
      cases s'
      cases s
      cases hg
      cases hd
      cases ho
      rfl
    rw [e]
    exact J
  have ea : acc = acc.toList.toArray := by simp
  rw [ea]
  exact NewT.ep I1 q (by rw [List.length_map]; exact hl) (vals_signs x hacc)
theorem c1_tuple (hK : X.K = Z.K) (hc : X.calm = true) : CallR X (.type "tuple") (rC1 Z .tuple) := by
  refine CallR.imp (call_tupleF.or (call_tupleS hc)) fun xs H Q ⟨x, e0, φ, M, d, W, σ, m, i, q⟩ => ?_
  subst e0
  simp only [ev1] at q
  split at q
  · rename_i ds e
    have s := asTup_same (show asTup (rd M d) = some ds by rw [e]; rfl)
    obtain ⟨a, vs, rfl, h1, h2⟩ := rv_tup m i e
    rw [← e, s] at q
    exact .inl ⟨a, vs, rfl, .inr ⟨by rw [hK]; exact sqT_out h1.sqT, q.fin m i⟩⟩
  · rename_i ds e
    have s := asTup_same (show asTup (rd M d) = some ds by rw [e]; rfl)
    obtain ⟨a, vs, rfl, h1, h2⟩ := rv_key m i e
    rw [← e, s] at q
    exact .inl ⟨a, vs, rfl, .inr ⟨by rw [hK]; exact sqT_out (SqT.of h1), q.fin m i⟩⟩
  · rename_i ds e
    obtain ⟨a, vs, rfl, h1, h2⟩ := rv_lst m i e
    exact .inl ⟨a, vs, rfl, .inl ⟨SqL.of h1, post.newT' q m h2⟩⟩
  · rename_i t e
    split at q
    · rename_i hl
      obtain ⟨rfl, s1⟩ := rv_str m i e
      exact .inr ⟨t, rfl, by rw [← line_eq]; exact hl, post.newT' q m (Iss.letters s1)⟩
    · exact q.elim
  · exact q.elim
end
end DL
end
section
set_option Elab.async false
set_option linter.all false
set_option maxRecDepth 100000
set_option autoImplicit false
set_option maxHeartbeats 4000000
/-! DL8: isinstance, slices, join, index. -/
namespace DL
open PySem PySem.Spec PyProof.Rows L2 LamX

section
variable {Z : Fix} {X : Cx} {φ : Ph} {G H : Hp} {M : Store} {W : WX} {σ : L2.St}
/-! ### isinstance(x, T) -/
def tyNames : List String := ["NoneType", "bool", "int", "str", "tuple", "list", "dict"]
theorem kit_isTy : ∀ t ∈ tyNames, ∀ n ∈ tyNames.tail, kitB t n = some (isTy t n) := by decide +kernel
theorem tyX_of (K : PySem.W.Frag) (hK : K = Z.K) (m : RepM Z φ M H) {d : D} {x : V} {t : String} (i : Is Z φ (out φ H) d x) (h : tyOf M d = some t) : TyX K H x (.type t) ∧ t ∈ tyNames := by
  unfold tyOf at h
  split at h
  · rename_i e
    have : d = .non := by
      have e := rk_ne e fun _ q => by cases q
      cases d with
      | ref n => rcases rd_two (M := M) n with ⟨ds, q⟩ | q
                 · rw [rd_lst q] at e; cases e
                 · rw [rd_no q] at e; cases e
      | non => rfl
      | _ => cases e
    subst this
    cases h
    rw [is_non i]
    exact ⟨.base .non, by decide⟩
  · rename_i k e
    have : d = .bl k := by
      have e := rk_ne e fun _ q => by cases q
      cases d with
      | ref n => rcases rd_two (M := M) n with ⟨ds, q⟩ | q
                 · rw [rd_lst q] at e; cases e
                 · rw [rd_no q] at e; cases e
      | bl k => exact e
      | _ => cases e
    subst this
    cases h
    rw [is_bl i]
    exact ⟨.base (.bl _), by decide⟩
  · rename_i k e
    cases h
    rw [rv_intK m i e]
    exact ⟨.base (.int _), by decide⟩
  · rename_i k e
    cases h
    rw [(rv_strK m i e).1]
    exact ⟨.base (.str _), by decide⟩
  · rename_i ds e
    cases h
    rcases rk_tup e with e | e
    · obtain ⟨a, vs, rfl, h1, h2⟩ := rv_tup m i e
      rcases h1 with ⟨o, h1, _⟩ | ⟨o, its, n, h1, hc, _⟩
      · exact ⟨.fTuple (out_some h1).2, by decide⟩
      · exact ⟨.kTuple (by rw [hK]; exact h1) hc, by decide⟩
    · obtain ⟨a, vs, rfl, h1, h2⟩ := rv_key m i e
      exact ⟨.base (.tup (out_some h1).2), by decide⟩
  · rename_i ds e
    cases h
    obtain ⟨a, vs, rfl, h1, h2⟩ := rv_lstK m i e
    exact ⟨.base (.lst h1), by decide⟩
  · rename_i n e
    split at h
    · rename_i tk kvs e2
      cases h
      obtain ⟨rfl, _⟩ := rk_ref e
      rw [Is] at i
      obtain ⟨a, rfl, ha⟩ := i
      rcases m.dict e2 ha with ⟨rfl, ws, e1, e3⟩ | ⟨rfl, ws, e1, e3⟩
      · exact ⟨.base (.dK e1), by decide⟩
      · exact ⟨.base (.dT e1), by decide⟩
    · cases h
  · cases h
def rIs2 (Z : Fix) (n : String) : List V → Hp → VK → Prop := fun xs H Q => ∃ x, xs = [x, .ty n] ∧ rO1 Z (.isT n) x H Q
theorem c1_isT (hK : X.K = Z.K) {n : String} (hn : n ∈ tyNames.tail) : CallR X (.builtin "isinstance") (rIs2 Z n) := by
  refine CallR.imp call_isi fun xs H Q ⟨x, e0, φ, M, d, W, σ, m, i, q⟩ => ?_
  subst e0
  simp only [ev1] at q
  cases h : tyOf M d with
  | none => rw [h] at q; exact q.elim
  | some t =>
    rw [h] at q
    obtain ⟨h1, h2⟩ := tyX_of X.K hK m i h
    exact ⟨x, .ty n, _, _, isTy t n, rfl, .ty n, h1, kit_ty (kit_isTy t h2 n hn), q.bl m⟩
/-! ### slices -/
def rSlD (Z : Fix) : V → Option Int → Option Int → Hp → VK → Prop := fun x lo hi H Q => ∃ φ M d W σ, RepM Z φ M H ∧ Is Z φ (out φ H) d x ∧ post Z (Is Z) W σ φ H (ofO (sliceI d lo hi M) M) Q
theorem cut_map {α β : Type} (f : α → β) (xs : List α) (lo hi : Option Int) : (cut xs lo hi).map f = cut (xs.map f) lo hi := by
  unfold cut
  rw [List.map_take, List.map_drop, List.length_map]
theorem cutV_ints (ns : List Int) (lo hi : Option Int) : cutV (ns.map V.int) lo hi = (cut ns lo hi).map V.int := by
  rw [cut_map]
  rfl
theorem cutS_cs (x : List Nat) (lo hi : Option Int) : cutS (cs x) lo hi = cs (cut x lo hi) := by
  unfold cutS cut
  simp only [cs_tl, cs_len]
theorem rd_scr {d : D} {ns : List Int} (e : rd M d = .scr ns) : d = .scr ns := by
  cases d with
  | ref n => rcases rd_two (M := M) n with ⟨ds, q⟩ | q
             · rw [rd_lst q] at e; cases e
             · rw [rd_no q] at e; cases e
  | scr ns => exact e
  | _ => cases e
theorem sl_all (hK : X.K = Z.K) : SlR X (rSlD Z) := by
  refine SlR.imp (sl_list.or (sl_str.or sl_tupF)) fun x lo hi H Q ⟨φ, M, d, W, σ, m, i, q⟩ => ?_
  unfold sliceI at q
  split at q
  · rename_i ds e
    obtain ⟨a, vs, rfl, h1, h2⟩ := rv_lst m i e
    exact .inl ⟨a, vs, rfl, SqL.of h1, q.newL m (h2.cut lo hi)⟩
  · rename_i ns e
    have := rd_scr e
    subst this
    rw [Is] at i
    obtain ⟨a, rfl, h1⟩ := i
    refine .inl ⟨a, _, rfl, by rw [hK]; exact sqL_out h1, ?_⟩
    rw [cutV_ints]
    exact q.newL m Iss.ints
  · rename_i t e
    split at q
    · rename_i hl
      obtain ⟨rfl, s1⟩ := rv_str m i e
      refine .inr (.inl ⟨_, rfl, by rw [cs_len, ← line_eq]; exact hl, ?_⟩)
      rw [cutS_cs]
      refine q.str m ?_
      rw [List.all_eq_true] at s1 ⊢
      exact fun c hc => s1 c (List.mem_of_mem_drop (List.mem_of_mem_take hc))
    · exact q.elim
  · split at q
    · rename_i ds e
      have s := asTup_same e
      obtain ⟨a, vs, rfl, h1, h2⟩ := rv_tupK m i (asTup_rd e)
      refine .inr (.inr ⟨a, vs, rfl, by rw [hK]; exact sqT_out h1, fun h => ?_, fun h => ?_⟩)
      · rw [← h2.length] at h
        rw [if_pos h, s] at q
        exact q.fin m i
      · rw [← h2.length] at h
        rw [if_neg h] at q
        exact post.newT' q m (h2.cut lo hi)
    · exact q.elim
/-! ### a[::-1] -/
theorem str_back (x : Str) : (Builtin.Str.strSliceIndices none none (-1) x.length).filterMap (x.cps[·]?) = x.cps.toList.reverse := by
  show (sliceRange ((x.cps.size : Int) - 1) (-1) (-1)).filterMap (x.cps[·]?) = _
  rw [PySem.W.krv_sliceRange, PySem.W.krv_range, List.filterMap_reverse, PySem.W.krv_all]
def tBack (te : TE) : TE := fun σ H Q => te σ H fun x H1 => (∃ a xs, x = .ref a ∧ H1 a = some (.lst xs) ∧ ∀ p, H1 p = none → Q (.ref p) (upd H1 p (.lst xs.reverse))) ∨
  ∃ z, x = .str z ∧ z.length ≤ sizeLine ∧ Q (.str ⟨z.cps.toList.reverse.toArray⟩) H1
theorem pe_back {e : Expr} {te : TE} {k : Nat} {p1 p2 p3 pos : Pos} (he : PE X e te) : PE X (.Subscript e (.Slice none none (some (.UnaryOp .USub (.Constant (.int 1) k p1) p2)) p3) pos) (tBack te) := by
  refine ⟨fun pins s σ H Q I h => ?_⟩
  refine Subscript_ (thn (he.run pins s σ H _ I h) fun v s1 ⟨x, H1, I1, r1, q1⟩ => ?_)
  have hst : PO X (some (.UnaryOp .USub (.Constant (.int 1) k p1) p2)) (tPart (tUn (rU fun i => .int (-i)) (tC (.int 1)))) := po_some (pe_un un_neg pe_int)
  refine wpAny_Slice (thn (po_none.run pins s1 σ H1 (fun o H2 => o = none ∧ H2 = H1) I1 ⟨rfl, rfl⟩) fun vl s2 ⟨l, H2, I2, pl, el, e2⟩ => ?_)
  subst el e2
  refine thn (po_none.run pins s2 σ H2 (fun o H3 => o = none ∧ H3 = H2) I2 ⟨rfl, rfl⟩) fun vu s3 ⟨u, H3, I3, pu, eu, e3⟩ => ?_
  subst eu e3
  refine thn (hst.run pins s3 σ H3 (fun o H4 => o = some (-1) ∧ H4 = H3) I3 ⟨1, rfl, -1, rfl, rfl, rfl⟩) fun vs s4 ⟨o, H4, I4, ps, eo, e4⟩ => ?_
  subst eo e4
  have I5 : Inv X pins σ H4 { s4 with heap := s4.heap.push { cls := .type "slice", data := .fields #[vl, vu, vs] } } := I4.kept (t' := s4.toks) fun b ob q => Heap.get?_push_of_some _ q
  rcases q1 with ⟨a, xs, ex, hx, q⟩ | ⟨z, ex, hz, q⟩
  · subst ex
    cases r1
    obtain ⟨its, r, ht, hz⟩ := I5.list (SqL.of hx)
    have hlen := r.length
    show wpAny (model X.prog X.w) X.A (subscriptTail e (.Slice none none (some (.UnaryOp .USub (.Constant (.int 1) k p1) p2)) p3) (.ref a) (.ref s4.heap.objs.size)) (EP X pins σ Q) X.xe { s4 with heap := s4.heap.push { cls := .type "slice", data := .fields #[vl, vu, vs] } }
    refine tail_any (ops := [.ref a, .ref s4.heap.objs.size]) ht.isList.typeIs (PySem.slot_list_getitem.lookup) ?_ (by with_unfolding_all rfl)
    refine wpAny_getItem_list_slice ht.isList (Heap.IsSliceOf.new _ vl vu vs) pl pu ps (by decide) ?_ (by rw [List.size_toArray]; omega)
    rw [PySem.W.krv_pick]
    refine ⟨.ref _, _, I5.laid (t' := s4.toks) (o := .lst xs.reverse) (fun b ob q => Heap.get?_push_of_some _ q) (Nat.le_refl _) ?_, rfl, q _ (I5.hok.fresh (Nat.le_refl _))⟩
    exact ⟨by rw [List.length_reverse]; exact hz, _, 0, r.reverse, Heap.get?_push_size _ rfl⟩
  · subst ex
    obtain ⟨t, rfl⟩ := r1
    show wpAny (model X.prog X.w) X.A (subscriptTail e (.Slice none none (some (.UnaryOp .USub (.Constant (.int 1) k p1) p2)) p3) (.str z t) (.ref s4.heap.objs.size)) (EP X pins σ Q) X.xe { s4 with heap := s4.heap.push { cls := .type "slice", data := .fields #[vl, vu, vs] } }
    refine tail_any (ops := [.str z t, .ref s4.heap.objs.size]) (T := "str") (typeIs_str _ z t) (F.slot_str_getitem.lookup) ?_ (by with_unfolding_all rfl)
    cases pl
    cases pu
    cases ps with
    | int _ tk =>
      refine wpAny_getItem_str_slice (l := none) (u := none) (st := some (-1, tk)) ⟨_, Heap.get?_push_size _ rfl, rfl, rfl⟩ (by rfl) ?_
      show Made.post (if (((-1) : Int) == 1 && (Builtin.Str.strSliceIndices none none (-1) z.length).length == z.length) = true then Made.val (.str z t)
        else Made.str ⟨((Builtin.Str.strSliceIndices none none (-1) z.length).filterMap (z.cps[·]?)).toArray⟩) (EP X pins σ Q) _
      rw [if_neg (by simp), str_back]
      exact ⟨by show (z.cps.toList.reverse.toArray).size ≤ _; rw [List.size_toArray, List.length_reverse, Array.length_toList]; exact hz, .str _, H4, I5.tok _, ⟨_, rfl⟩, q⟩
/-! ### sep.join(xs) -/
theorem join_cs (a : List Nat) (ys : List (List Nat)) : Txt.join (cs a) (ys.map cs) = cs (TL.joinL a ys) := SX.join_S a ys
theorem joinL_len (a : List Nat) : ∀ ys : List (List Nat), (ys.map (·.length)).sum + ys.length * a.length ≤ (TL.joinL a ys).length + a.length
  | [] => by simp
  | [p] => by simp [TL.joinL]
  | p :: q :: r => by
    have := joinL_len a (q :: r)
    simp only [TL.joinL, List.length_append, List.map_cons, List.sum_cons, List.length_cons, Nat.add_mul, Nat.one_mul] at this ⊢
    omega
theorem strs_seq (K : PySem.W.Frag) (hK : K = Z.K) (m : RepM Z φ M H) {d : D} {y : V} {ds : List D} {xs : List (List Nat)} (i : Is Z φ (out φ H) d y) (h : rk M d = .lst ds ∨ rk M d = .tup ds) (hs : strsOf ds = some xs) :
    ∃ p, y = .ref p ∧ (SqL K H p ((xs.map cs).map V.str) ∨ SqT K H p ((xs.map cs).map V.str)) ∧ ∀ x ∈ xs, x.all (fun c => decide (c < 1114112)) = true := by
  rcases h with e | e
  · obtain ⟨a, vs, rfl, h1, h2⟩ := rv_lstK m i e
    obtain ⟨h3, _, h4⟩ := h2.strsOf hs
    subst h3
    exact ⟨a, rfl, .inl (SqL.of h1), h4⟩
  · obtain ⟨a, vs, rfl, h1, h2⟩ := rv_tupK m i e
    obtain ⟨h3, _, h4⟩ := h2.strsOf hs
    subst h3
    exact ⟨a, rfl, .inr (by rw [hK]; exact sqT_out h1), h4⟩
theorem join_ok (s : List Nat) : ∀ xs : List (List Nat), s.all (fun c => decide (c < 1114112)) = true → (∀ x ∈ xs, x.all (fun c => decide (c < 1114112)) = true) → (joinN s xs).all (fun c => decide (c < 1114112)) = true
  | [], _, _ => rfl
  | [p], _, h => h p (by simp)
  | p :: q :: r, hs, h => by
    show (p ++ (s ++ TL.joinL s (q :: r))).all _ = true
    exact all_app (h p (by simp)) (all_app hs (join_ok s (q :: r) hs fun x hx => h x (List.mem_cons_of_mem _ hx)))
theorem m_join (hK : X.K = Z.K) : MtR X "str.join" (fun x xs H Q => ∃ y, xs = [y] ∧ rO2 Z .join x y H Q) := by
  refine MtR.imp mt_join fun x ys H Q ⟨y, e0, φ, M, d, e, W, σ, m, i, j, q⟩ => ?_
  subst e0
  simp only [ev2] at q
  have fin : ∀ (s : List Nat) (ds : List D), d = .str s → (rk M e = .lst ds ∨ rk M e = .tup ds) → post Z (Is Z) W σ φ H (ofO (match strsOf ds with | some xs => if (joinN s xs).length + s.length ≤ line then some (D.str (joinN s xs)) else none | none => none) M) Q →
      ∃ a p, ∃ zs : List Str, x = .str a ∧ [y] = [V.ref p] ∧ (SqL X.K H p (zs.map V.str) ∨ SqT X.K H p (zs.map V.str)) ∧ (zs.map (·.length)).sum + zs.length * a.length ≤ 16777216 ∧ Q (.str (Txt.join a zs)) H := by
    intro s ds hd he q1
    clear q
    subst hd
    cases h : strsOf ds with
    | none => rw [h] at q1; exact q1.elim
    | some xs =>
      rw [h] at q1
      simp only at q1
      split at q1
      · rename_i hl
        obtain ⟨p, rfl, h1, h2⟩ := strs_seq X.K hK m j he h
        refine ⟨_, p, xs.map cs, (is_str i).1, rfl, h1, ?_, ?_⟩
        · have := joinL_len s xs
          have e1 : ((xs.map cs).map (·.length)) = xs.map (·.length) := by
            rw [List.map_map]
            exact List.map_congr_left fun z _ => cs_len z
          rw [e1, cs_len, List.length_map]
          exact Nat.le_trans this hl
        · rw [join_cs]
          exact q1.str m (join_ok s xs (is_str i).2 h2)
      · exact q1.elim
  split at q
  · rename_i s ds e1
    exact fin s ds rfl (.inl e1) q
  · rename_i s ds e1
    exact fin s ds rfl (.inr e1) q
  · exact q.elim
/-! ### index -/
theorem strsOf_inj : ∀ {x y : List Nat}, cs x = cs y → x = y := fun {x y} h => by
  have := congrArg (fun s : Str => s.cps.toList) h
  simpa using this
theorem indexS_at : ∀ {xs : List (List Nat)} {x : List Nat} {j : Nat}, indexS xs x = some j → (xs.map cs)[j]? = some (cs x) ∧ ∀ m, m < j → (xs.map cs)[m]? ≠ some (cs x)
  | [], x, j, h => by cases h
  | y :: r, x, j, h => by
    simp only [indexS] at h
    by_cases e : y = x
    · rw [if_pos e] at h
      cases h
      subst e
      exact ⟨rfl, fun m hm => absurd hm (Nat.not_lt_zero _)⟩
    · rw [if_neg e] at h
      cases q : indexS r x with
      | none => rw [q] at h; cases h
      | some k =>
        rw [q] at h
        cases h
        obtain ⟨h1, h2⟩ := indexS_at q
        refine ⟨by simpa using h1, fun m hm => ?_⟩
        cases m with
        | zero => exact fun z => e (strsOf_inj (by simpa using z))
        | succ m => exact fun z => h2 m (Nat.lt_of_succ_lt_succ hm) (by simpa using z)
theorem m_indexT (hK : X.K = Z.K) : MtR X "tuple.index" (fun x xs H Q => ∃ y, xs = [y] ∧ rO2 Z .indexT x y H Q) := by
  refine MtR.imp mt_tup_index fun x ys H Q ⟨y, e0, φ, M, d, e, W, σ, m, i, j, q⟩ => ?_
  subst e0
  simp only [ev2] at q
  split at q
  · rename_i ds x'
    split at q
    · rename_i xs h
      cases h' : indexS xs x' with
      | none => rw [h'] at q; exact q.elim
      | some k =>
        rw [h'] at q
        rw [Is] at i
        obtain ⟨a, vs, rfl, h1, h2⟩ := i
        obtain ⟨h3, _, h4⟩ := h2.strsOf h
        subst h3
        obtain ⟨k1, k2⟩ := indexS_at h'
        exact ⟨a, xs.map cs, cs x', k, rfl, by rw [(is_str j).1], by rw [hK]; exact sqT_out h1.sqT, k1, k2, q.int m⟩
    · exact q.elim
  · exact q.elim
theorem indexD_at : ∀ {ds : List D} {e : D} {j : Nat}, indexD ds e = some j → ∃ z, (D.toPs ds)[j]? = some z ∧ PyData.eqv z e.toP = true ∧ ∀ (m : Nat) (z' : PyData), m < j → (D.toPs ds)[m]? = some z' → PyData.eqv z' e.toP = false
  | [], e, j, h => by cases h
  | y :: r, e, j, h => by
    simp only [indexD] at h
    cases c : y.eqv e with
    | true =>
      rw [if_pos c] at h
      cases h
      exact ⟨y.toP, by simp [D.toPs], c, fun m _ hm => absurd hm (Nat.not_lt_zero _)⟩
    | false =>
      rw [if_neg (by rw [c]; decide)] at h
      cases q : indexD r e with
      | none => rw [q] at h; cases h
      | some k =>
        rw [q] at h
        cases h
        obtain ⟨z, h1, h2, h3⟩ := indexD_at q
        refine ⟨z, by simpa [D.toPs] using h1, h2, fun m z' hm hz => ?_⟩
        cases m with
        | zero =>
          simp [D.toPs] at hz
          subst hz
          exact c
        | succ m => exact h3 m z' (Nat.lt_of_succ_lt_succ hm) (by simpa [D.toPs] using hz)
theorem m_index (hK : X.K = Z.K) (hu : X.A.units + 65 < cLine) : MtR X "list.index" (fun x xs H Q => ∃ y, xs = [y] ∧ rO2 Z .index x y H Q) := by
  refine MtR.imp (mt_indexD hu) fun x ys H Q ⟨y, e0, φ, M, d, e, W, σ, m, i, j, q⟩ => ?_
  subst e0
  simp only [ev2] at q
  split at q
  · rename_i ds e1
    split at q
    · rename_i ok
      simp only [Bool.and_eq_true] at ok
      cases h' : indexD ds (rd M e) with
      | none => rw [h'] at q; exact q.elim
      | some k =>
        rw [h'] at q
        obtain ⟨z, k1, k2, k3⟩ := indexD_at h'
        obtain ⟨a1, a2⟩ := rv_dp X.K hK m j ok.2
        obtain ⟨b1, b2⟩ := rv_dp X.K hK m i (by rw [e1]; exact ok.1)
        rw [e1] at b1 b2
        obtain ⟨a, vs, rfl, h1, h2⟩ := rv_lst m i e1
        exact ⟨a, y, _, _, k, z, rfl, rfl, b1, a1, b2, a2, k1, k2, k3, q.int m⟩
    · exact q.elim
  · exact q.elim
end
end DL
end
section
set_option Elab.async false
set_option linter.all false
set_option maxRecDepth 100000
set_option autoImplicit false
set_option maxHeartbeats 4000000
/-! DL9: sets of texts: set(xs), len(set(xs)), sorted(set(xs)). -/
namespace DL
open PySem PySem.Spec PyProof.Rows L2 LamX

def keyS (e : Int × Value) : Str := match e.2 with | .str k _ => k | _ => Str.empty
def GoodS (w : World) (e : Int × Value) : Prop := ∃ k tk, e.2 = Value.str k tk ∧ e.1 = hashStr w k
/-- the set of texts at a: S its members, n their number; its table rises and can be walked -/
def SetS (w : World) (h : Heap) (a : Addr) (S : Str → Bool) (n : Nat) : Prop :=
  ∃ o es ep t, h.get? a = some o ∧ o.ExactSet ∧ o.data = .set es ep t ∧ (∀ e ∈ es.toList, GoodS w e) ∧ (es.toList.map keyS).Nodup ∧ (∀ k, S k = true ↔ k ∈ es.toList.map keyS) ∧
    es.size < scanBound ∧ t.fits es.size = true ∧ es.size = n ∧ Ris t.place.toList ∧ (w.params.followText "set-order" = true ∨ t.led = true)
section
variable {P : Program} {w : World} {h h' : Heap} {a : Addr} {S : Str → Bool} {n : Nat}
theorem SetS.at (R : SetS w h a S n) (k : ∀ o, h.get? a = some o → h'.get? a = some o) : SetS w h' a S n :=
  let ⟨o, es, ep, t, ho, r⟩ := R
  ⟨o, es, ep, t, k o ho, r⟩
theorem SetS.congr {S' : Str → Bool} (R : SetS w h a S n) (e : ∀ k, S' k = S k) : SetS w h a S' n := by
  rw [show S' = S from funext e]
  exact R
theorem goodS_elems {l : List (Int × Value)} (g : ∀ e ∈ l, GoodS w e) : ElemsOf (strKind P w) l := fun e he => by
  obtain ⟨k, tk, h1, h2⟩ := g e he
  exact ⟨⟨k, by rw [h1]; exact strKind_is P w k tk, h2⟩, by rw [h1] <;> rfl⟩
theorem goodS_is {e : Int × Value} (g : GoodS w e) (k : Str) : (strKind P w).is k e.2 = true ↔ keyS e = k := by
  obtain ⟨k0, tk, h1, _⟩ := g
  unfold keyS
  rw [h1]
  show ((k0 == k) = true) ↔ k0 = k
  exact beq_iff_eq
theorem goodS_mem {l : List (Int × Value)} (g : ∀ e ∈ l, GoodS w e) (k : Str) : k ∈ l.map keyS ↔ ∃ e ∈ l, (strKind P w).is k e.2 = true := by
  rw [List.mem_map]
  exact ⟨fun ⟨e, he, q⟩ => ⟨e, he, (goodS_is (g e he) k).2 q⟩, fun ⟨e, he, q⟩ => ⟨e, he, (goodS_is (g e he) k).1 q⟩⟩
theorem setS_fresh {led : Bool} (e : h.get? a = some { cls := .type "set", dict := none, data := .set #[] 0 (.fresh 0 0 led) }) (hl : w.params.followText "set-order" = true ∨ led = true) : SetS w h a (fun _ => false) 0 :=
  ⟨_, #[], 0, _, e, ⟨rfl, rfl, rfl⟩, rfl, (fun e he => by simp at he), (by simp), (fun k => by simp), (by decide), (by rfl), rfl, List.Pairwise.nil, hl⟩
end

section
variable {P : Program} {w : World} {A : Around} {E : Value → Shared → Prop} {s : Shared} {a : Addr} {S : Str → Bool} {n : Nat}
theorem setS_tail {g : Bool → Sem Unit} (hg : ∀ (b : Bool) (s₁ : Shared) (Q' : Unit → Shared → Prop), Q' () s₁ → wpAny (model P w) A (g b) Q' E s₁)
    {o : Obj} {es : Array (Int × Value)} {ep : Nat} {t : SetTable} (ho : s.heap.get? a = some o) (hex : o.ExactSet) (hd : o.data = .set es ep t)
    {es1 : Array (Int × Value)} {t2 : SetTable} {S' : Str → Bool} (g1 : ∀ e ∈ es1.toList, GoodS w e) (nd1 : (es1.toList.map keyS).Nodup) (m1 : ∀ k, S' k = true ↔ k ∈ es1.toList.map keyS)
    (hb1 : es1.size < scanBound) (hf2 : t2.fits es1.size = true) (hr : Ris t2.place.toList) (hl : w.params.followText "set-order" = true ∨ t2.led = true) {wasDummy : Bool} {R : Option Bool → Shared → Prop}
    (hR : ∀ h', Heap.SameBut a s.heap h' → SetS w h' a S' es1.size → R (some true) { s with heap := h' }) :
    wpAny (model P w) A (do
        storeSet a es1 t2
        if (!wasDummy && t2.tooFull) = true then do
            g (relayAll t2 es1 (SetTable.grown es1.size)).2.2
            storeSet a (relayAll t2 es1 (SetTable.grown es1.size)).1 (relayAll t2 es1 (SetTable.grown es1.size)).2.1
            pure (some true)
          else pure (some true)) R E s := by
  refine wpAny_bind (wpAny_storeSet_of ho hd ?_ (fits_of_scanBound hb1))
  have ho1 := store_at (es' := es1) (t' := t2) ho hd
  have sb1 := Heap.SameBut.update s.heap a (Obj.putSet es1 t2)
  split
  · have pm := relayAll_perm t2 es1 (SetTable.grown es1.size)
    have hf3 := relayAll_fits t2 es1 (SetTable.grown es1.size)
    have hr3 := relayAll_ris t2 es1 (SetTable.grown es1.size)
    have hl3 := relayAll_led t2 es1 (SetTable.grown es1.size)
    generalize relayAll t2 es1 (SetTable.grown es1.size) = Z at pm hf3 hr3 hl3 ⊢
    obtain ⟨es2, t3, gave⟩ := Z
    dsimp only at pm hf3 hr3 hl3 ⊢
    have hsz : es2.size = es1.size := by rw [← Array.length_toList, pm.length_eq, Array.length_toList]
    have hb2 : es2.size < scanBound := by rw [hsz]; exact hb1
    refine wpAny_bind (hg _ _ _ ?_)
    refine wpAny_bind (wpAny_storeSet_of ho1 rfl ?_ (fits_of_scanBound hb2))
    have ho2 := store_at (es' := es2) (t' := t3) ho1 rfl
    refine wpAny_pure (hR _ (sb1.trans (Heap.SameBut.update _ a _)) ?_)
    exact ⟨_, es2, _, t3, ho2, hex, rfl, fun e he => g1 e (pm.mem_iff.mp he), (pm.map keyS).nodup_iff.mpr nd1, fun k => (m1 k).trans (pm.map keyS).mem_iff.symm, hb2, hf3, hsz, hr3,
      hl.imp id fun z => by rw [hl3]; exact z⟩
  · exact wpAny_pure (hR _ sb1 ⟨_, es1, _, t2, ho1, hex, rfl, g1, nd1, m1, hb1, hf2, rfl, hr, hl⟩)

theorem setS_put {k : Str} {tk : Tok} {Q : Bool → Shared → Prop} (R : SetS w s.heap a S n) (room : n + 1 < scanBound)
    (hQ : ∀ h', Heap.SameBut a s.heap h' → SetS w h' a (fun j => S j || decide (j = k)) (if S k = true then n else n + 1) → Q (!S k) { s with heap := h' }) :
    wpAny (model P w) A (setAddHashed a (.str k tk) ((strKind P w).hash k)) Q E s := by
  obtain ⟨o, es, ep, t, ho, hex, hd, g, nd, hm, hb, hf, hn, hr, hl⟩ := R
  have hkey : (strKind P w).is k (.str k tk) = true := strKind_is P w k tk
  have hsc : (Value.str k tk).scannable = true := rfl
  have hel : ElemsOf (strKind P w) es.toList := goodS_elems g
  unfold setAddHashed setAddHashedIn
  refine wpAny_holding (wpAny_bind (wpAny_setState_of ho hd hf ?_))
  dsimp only
  rw [byScan_of hsc hb hel]
  simp only [↓reduceIte]
  unfold setAddByScan
  refine wpAny_bind ?_
  refine wpAny_bind (wpAny_rule ?_)
  refine wpAny_bind (wpAny_setScan_of hkey ho hd hf hel ?_)
  cases hfi : List.findIdx? (fun e => (strKind P w).is k e.2) es.toList with
  | some j =>
    dsimp only
    obtain ⟨hj, pj, _⟩ := List.findIdx?_eq_some_iff_getElem.mp hfi
    have hSk : S k = true := (hm k).2 ((goodS_mem (P := P) (w := w) g k).2 ⟨es.toList[j], List.getElem_mem hj, pj⟩)
    refine wpAny_pure (wpAny_pure ?_)
    have q := hQ s.heap (Heap.SameBut.refl a s.heap) ⟨o, es, ep, t, ho, hex, hd, g, nd, fun i => by
      rw [Bool.or_eq_true, decide_eq_true_eq, ← hm i]
      exact ⟨fun z => z.elim id (fun e => e ▸ hSk), .inl⟩, hb, hf, by rw [if_pos hSk]; exact hn, hr, hl⟩
    rw [hSk] at q
    exact q
  | none =>
    dsimp only
    have hnk : k ∉ es.toList.map keyS := fun z => by
      obtain ⟨e, he, q⟩ := (goodS_mem (P := P) (w := w) g k).1 z
      have c := List.findIdx?_eq_none_iff.mp hfi e he
      rw [q] at c
      cases c
    have hSk : S k = false := by
      cases q : S k with
      | false => rfl
      | true => exact absurd ((hm k).1 q) hnk
    have hgw : ∀ (b : Bool) {s₁ : Shared} {Q' : Unit → Shared → Prop}, Q' () s₁ → wpAny (model P w) A (match b with | true => rule "set.scan.the-table-gave-way" | false => pure ()) Q' E s₁ :=
      fun b s₁ Q' q => by cases b <;> first | exact wpAny_pure q | exact wpAny_rule q
    have pm := layNew_perm t es ((strKind P w).hash k) (.str k tk)
    have hf1 := layNew_fits t es ((strKind P w).hash k) (.str k tk)
    have hr1 := layNew_ris t es ((strKind P w).hash k) (.str k tk) hr
    have hl1 := layNew_led t es ((strKind P w).hash k) (.str k tk)
    generalize layNew t es ((strKind P w).hash k) (.str k tk) = Z at pm hf1 hr1 hl1 ⊢
    obtain ⟨es1, t1, wasDummy, gave⟩ := Z
    dsimp only at pm hf1 hr1 hl1 ⊢
    rw [Array.toList_push] at pm
    have pc : es1.toList.Perm (((strKind P w).hash k, Value.str k tk) :: es.toList) := pm.trans (List.perm_append_singleton _ _)
    have pk : (es1.toList.map keyS).Perm (k :: es.toList.map keyS) := pc.map keyS
    have g1 : ∀ e ∈ es1.toList, GoodS w e := fun e he => by
      rcases List.mem_cons.mp (pc.mem_iff.mp he) with z | z
      · rw [z]; exact ⟨k, tk, rfl, rfl⟩
      · exact g e z
    have nd1 : (es1.toList.map keyS).Nodup := pk.nodup_iff.mpr (List.nodup_cons.mpr ⟨hnk, nd⟩)
    have m1 : ∀ i, (S i || decide (i = k)) = true ↔ i ∈ es1.toList.map keyS := fun i => by
      rw [Bool.or_eq_true, decide_eq_true_eq, hm i, pk.mem_iff, List.mem_cons]
      exact Or.comm
    have hsz : es1.size = n + 1 := by rw [← Array.length_toList, pc.length_eq, List.length_cons, Array.length_toList, hn]
    have hb1 : es1.size < scanBound := by rw [hsz]; exact room
    have hled : w.params.followText "set-order" = true ∨ t1.led = true := hl.imp id fun z => by rw [hl1]; exact z
    have fin : ∀ h', Heap.SameBut a s.heap h' → SetS w h' a (fun j => S j || decide (j = k)) es1.size → Q true { s with heap := h' } := fun h' sb r => by
      have q := hQ h' sb
      rw [hSk] at q
      rw [hsz] at r
      exact q r
    refine wpAny_bind (hgw _ ?_)
    split
    · refine wpAny_bind ?_
      rw [hashByValue_scannable 8 hsc]
      refine wpAny_pure ?_
      refine setS_tail ?_ ho hex hd g1 nd1 m1 hb1 ?_ ?_ ?_ ?_
      · intro b s₁ Q' q; cases b <;> first | exact wpAny_pure q | exact wpAny_rule q
      · first | (split <;> first | exact hf1 | exact SetTable.fits_plain_off hf1) | exact hf1
      · first | (split <;> exact hr1) | exact hr1
      · first | (split <;> exact hled) | exact hled
      · intro h' sb r; dsimp only; exact wpAny_pure (fin h' sb r)
    · refine wpAny_bind (wpAny_pure ?_)
      simp only [↓reduceIte]
      refine setS_tail ?_ ho hex hd g1 nd1 m1 hb1 hf1 hr1 hled ?_
      · intro b s₁ Q' q; cases b <;> first | exact wpAny_pure q | exact wpAny_rule q
      · intro h' sb r; dsimp only; exact wpAny_pure (fin h' sb r)
theorem code_set_led1 (x : Value) {Q₁ : Value → Shared → Prop}
    (h : ∀ led : Bool, (w.params.followText "set-order" = true ∨ led = true) → Q₁ (.ref s.heap.objs.size) { s with heap := s.heap.push { cls := .type "set", dict := none, data := .set #[] 0 (.fresh 0 0 led) } }) :
    codeAny (model P w) A (.call (.builtin "set.__new__") ⟨[.type "set", x], []⟩) (wants Q₁ E) s := by
  refine codeAny_of_tree ?_
  show wpAny _ A.in1 (do checkBuiltinCall "set.__new__" ⟨[.type "set", x], []⟩; again (.builtin "set.__new__" ⟨[.type "set", x], []⟩)) _ _ s
  refine wpAny_bind (wpAny_of_eq (PySem.F.newCall_set_1 x) (wpAny_pure ⟨plainId_quiet PySem.F.plain_set_new _, codeAny_builtin PySem.F.entry_set_new ?_⟩))
  rw [Around.under_plainId PySem.F.plain_set_new _]
  unfold Builtin.«set.__new__» Builtin.Frozenset.newClass
  have hsub := sub_set_self
  obtain ⟨hp, g, d, tk, os⟩ := s
  dsimp only
  wp_walk
  refine wpAny_askSetting (wpAny_pure ?_)
  dsimp only
  simp only [newObj]
  refine wpAny_bind (wpAny_alloc (wpAny_pure ?_))
  refine wpAny_pure (h _ ?_)
  show w.params.followText "set-order" = true ∨ (!w.params.followText "set-order") = true
  cases w.params.followText "set-order"
  · exact .inr rfl
  · exact .inl rfl
end
section
variable {prog : Program} {w : World} {A : Around} {R : Result → Shared → Prop} {I : Addr} {fp wr : List Addr} {G : Array GenState → Array GenState → Prop} {n : Nat} {P : Nat → Value → Prop} {St : Nat → Shared → Prop}
theorem loopS (W : WalksS prog w A.in1 I fp wr G n P St) (S : Addr) (hSf : S ∉ fp) (xs : List Str) (hsz : xs.length = n) (hn1 : n < 64)
    (hval : ∀ i v, P i v → ∃ t, v = .str (xs.getD i Str.empty) t) :
    ∀ (k i m : Nat) (s : Shared), n - i = k → i ≤ n → m ≤ i → St i s →
      SetS w s.heap S (fun k' => (xs.take i).any (· == k')) m →
      (∀ s' m', m' ≤ n → Moved (S :: wr) G s s' → SetS w s'.heap S (fun k' => (xs.take n).any (· == k')) m' → R (.ok (.ret .none)) s') →
      codeAny (model prog w) A (.builtin "set.update.loop" ⟨[.ref S, .ref I], []⟩) R s := by
  have hSw : S ∉ wr := fun h => hSf (W.sub _ h)
  have hsub : ∀ b ∈ wr, b ∈ S :: wr := fun b hb => List.mem_cons_of_mem _ hb
  intro k
  induction k with
  | zero =>
    intro i m s hk hi hmi hst hS hR
    have hin : i = n := by omega
    subst hin
    refine codeAny_builtin PyProof.Rows.F.entry_set_update_loop ?_
    rw [Around.under_plainId PyProof.Rows.F.plain_set_update_loop _]
    show wpAny _ A.in1 (pyNext (.ref I) >>= _) _ _ s
    refine wpAny_bind (W.done s _ _ hst fun s' hm => ?_)
    show wpAny _ A.in1 (ret Value.none) _ _ s'
    exact wpAny_pure (hR s' m hmi (hm.mono hsub) (hS.at fun o ho => hm.heap S _ hSw ho))
  | succ k ih =>
    intro i m s hk hi hmi hst hS hR
    have hlt : i < n := by omega
    refine codeAny_builtin PyProof.Rows.F.entry_set_update_loop ?_
    rw [Around.under_plainId PyProof.Rows.F.plain_set_update_loop _]
    show wpAny _ A.in1 (pyNext (.ref I) >>= _) _ _ s
    refine wpAny_bind (W.item i s _ _ hlt hst fun v s' hP hst' hm => ?_)
    obtain ⟨t, rfl⟩ := hval i v hP
    have hS' : SetS w s'.heap S (fun k' => (xs.take i).any (· == k')) m := hS.at fun o ho => hm.heap S _ hSw ho
    show wpAny _ A.in1 (holding [Value.str (xs.getD i Str.empty) t] (setAdd S (.str (xs.getD i Str.empty) t)) >>= _) _ _ s'
    refine wpAny_bind (wpAny_holding ?_)
    unfold setAdd
    refine wpAny_holding ?_
    refine wpAny_bind ((PySem.strKind prog w).pyHash (k := xs.getD i Str.empty) (strKind_is _ _ _ _) ?_)
    refine setS_put (P := prog) (s := { s' with toks := s'.toks + 1 }) hS' (by unfold scanBound; omega) fun h' hsb hS2 => ?_
    have hSi : SetS w h' S (fun k' => (xs.take (i + 1)).any (· == k')) (if (xs.take i).any (· == xs.getD i Str.empty) = true then m else m + 1) := by
      refine hS2.congr fun k' => ?_
      have hil : i < xs.length := by omega
      have e : xs.getD i Str.empty = xs[i] := by simp [List.getD, hil]
      have e2 : xs.take (i + 1) = xs.take i ++ [xs[i]] := by rw [List.take_succ, List.getElem?_eq_getElem hil]; rfl
      rw [e, e2, List.any_append]
      congr 1
      by_cases c : k' = xs[i]
      · subst c; simp
      · have : (xs[i] == k') = false := by simpa [beq_iff_eq] using (fun h' : xs[i] = k' => c h'.symm)
        simp [this, c]
    refine wpAny_pure ⟨plainId_quiet PyProof.Rows.F.plain_set_update_loop _, ih (i + 1) _ _ (by omega) hlt (by split <;> omega) (W.frame _ s' _ _ hst' (Nat.le_succ _) fun b hb o e => ?_) hSi fun s'' m'' hle hm'' hS'' => ?_⟩
    · rw [hsb.2 b (fun h : b = S => hSf (by rw [← h]; exact hb))]; exact e
    · refine hR s'' m'' hle (Moved.trans W.gtrans ((hm.mono hsub).then_heap (Nat.le_succ _) fun b o hb e => ?_) hm'') hS''
      rw [hsb.2 b (fun h : b = S => hb (by rw [h]; exact List.mem_cons_self))]; exact e
end
section
variable {prog : Program} {w : World} {A : Around} {E : Value → Shared → Prop} {s : Shared}
set_option maxHeartbeats 3200000 in
theorem set_of_list {l : Addr} {items : Array Value} {xs : List Str} {Q : Value → Shared → Prop}
    (hh : A.handled = none) (hl : s.heap.IsList l items) (hi : PyProof.Rows.StrsAre items.toList xs) (hn1 : xs.length < 64)
    (h : ∀ (h' : Heap) (tk m : Nat), m < 64 → SetS w h' s.heap.objs.size (fun k' => xs.any (· == k')) m →
      (∀ b o, b < s.heap.objs.size → s.heap.get? b = some o → h'.get? b = some o) → Q (.ref s.heap.objs.size) { s with heap := h', toks := tk }) :
    wpAny (model prog w) A (call (.type "set") [.ref l]) Q E s := by
  obtain ⟨c, tl, hmro⟩ := PySem.F.called_set.mro
  have hmade := PySem.F.called_set.made
  have hsub := PySem.F.called_set.sub
  refine wpAny_call (codeAny_of_tree ?_)
  show wpAny _ _ (callAny (.type "set") _) _ _ _
  refine wpAny_pure ⟨Code.quiet_builtin _ (by decide +kernel), codeAny_builtin PySem.F.entry_type_call ?_⟩
  rw [Around.under_plain (weight_type_call_type "set" [.ref l] []) rfl]
  have h1 := PySem.F.called_set.notType
  have h2 := PySem.F.called_set.canCreate
  have hct := PySem.F.typeCall_set_1 (.ref l)
  repeat (any_goals (first | assumption | wp_step))

  refine codeAny_mono (code_set_led1 (.ref l) (E := E) (Q₁ := fun obj s₁ => ∃ led : Bool, (w.params.followText "set-order" = true ∨ led = true) ∧ obj = .ref s.heap.objs.size ∧ s₁ = { s with heap := s.heap.push { cls := .type "set", dict := none, data := .set #[] 0 (.fresh 0 0 led) } }) fun led hd => ⟨led, hd, rfl, rfl⟩) fun r s₁ hr => ?_
  cases r with
  | error e => exact hr
  | ok fl =>
    cases fl with
    | ret obj =>
      obtain ⟨led, hled, rfl, rfl⟩ := hr
      have hS : (s.heap.push { cls := .type "set", dict := none, data := .set #[] 0 (.fresh 0 0 led) }).get? s.heap.objs.size = some { cls := .type "set", dict := none, data := .set #[] 0 (.fresh 0 0 led) } := Heap.get?_push_size _ rfl
      have hT : Shared.TypeIs { s with heap := s.heap.push { cls := .type "set", dict := none, data := .set #[] 0 (.fresh 0 0 led) } } (.ref s.heap.objs.size) "set" := ⟨_, hS, rfl⟩
      have hli := PySem.F.called_set.init.lookup
      have hbi := PySem.F.called_set.init.bind (.ref s.heap.objs.size)
      repeat (any_goals (first | assumption | wp_step))

      refine codeAny_mono (codeAny_call_builtin (R := wants (fun r s₂ => r = .none ∧ ∃ h' tk m, m < 64 ∧ s₂ = { s with heap := h', toks := tk } ∧
          SetS w h' s.heap.objs.size (fun k' => xs.any (· == k')) m ∧
          (∀ b o, b < s.heap.objs.size → s.heap.get? b = some o → h'.get? b = some o)) E) PySem.F.called_set.init.plain PySem.F.entry_set_init (check_set_init_1 hT ?_)) fun r₂ s₂ hr₂ => ?_
      · obtain ⟨ol, hol, hcl, nl, hdl⟩ := hl
        obtain ⟨ocls, odict, odata, oslots⟩ := ol
        simp only at hcl hdl
        subst hcl; subst hdl
        have hol' : (s.heap.push { cls := .type "set", dict := none, data := .set #[] 0 (.fresh 0 0 led) }).get? l = some { cls := .type "list", dict := odict, data := .seq items nl, slots := oslots } := Heap.get?_push_of_some _ hol
        have hsls := PySem.F.sub_list_set
        have hslf := PySem.F.sub_list_frozenset
        have hne : (Value.type "list" == Value.type "dict") = false := by decide
        have hl1 : (s.heap.push { cls := .type "set", dict := none, data := .set #[] 0 (.fresh 0 0 led) }).IsList l items := ⟨_, hol', rfl, nl, rfl⟩
        unfold Builtin.«set.__init__» noKeywords Builtin.Frozenset.updateFrom
        generalize hPI : pyIter = PI
        wp_walk
        subst hPI

        refine wpAny_pyIter_list hl1 ?_
        refine wpAny_bind (wpAny_runValue ?_)
        have hlS : l < s.heap.objs.size := Heap.lt_size hol
        have hh3 : A.in1.in1.in1.handled = none := by simp [hh]
        have hneI : l ≠ (s.heap.push { cls := .type "set", dict := none, data := .set #[] 0 (.fresh 0 0 led) }).objs.size := by
          rw [Heap.size_push]; exact Nat.ne_of_lt (Nat.lt_succ_of_lt hlS)
        have hSf : s.heap.objs.size ∉ [(s.heap.push { cls := .type "set", dict := none, data := .set #[] 0 (.fresh 0 0 led) }).objs.size, l] := by
          rw [Heap.size_push]; simp only [List.mem_cons, List.mem_singleton, List.not_mem_nil, or_false, not_or]
          exact ⟨Nat.ne_of_lt (Nat.lt_succ_self _), Nat.ne_of_gt hlS⟩
        have hsz : xs.length = items.size := by rw [← StrsAre.len_eq hi, Array.length_toList]
        have hval : ∀ (i : Nat) (v : Value), items[i]? = some v → ∃ t, v = .str (xs.getD i Str.empty) t := fun i v hv => SS.strs_at hi i v (by rw [Array.getElem?_toList]; exact hv)
        refine loopS ((Walks.list hh3 _ l hneI items).toS) s.heap.objs.size
          hSf xs hsz (by rw [← hsz]; exact hn1) hval (items.size - 0) 0 0 _ (by omega) (Nat.zero_le _) (Nat.le_refl _)
          ⟨⟨_, Heap.get?_push_size _ rfl, rfl, rfl⟩, (hl1.push _)⟩ ?hS0 ?hR
        case hS0 =>
          have hget : ((s.heap.push { cls := .type "set", dict := none, data := .set #[] 0 (.fresh 0 0 led) }).push { cls := .type "list_iterator", data := .fields #[.ref l, .int 0 0] }).get? s.heap.objs.size
              = some { cls := .type "set", dict := none, data := .set #[] 0 (.fresh 0 0 led) } := Heap.get?_push_of_some _ hS
          exact (setS_fresh hget hled).congr fun _ => by simp
        case hR =>
          intro s' m' hle hm hS'
          rw [List.take_of_length_le (by rw [hsz] <;> exact Nat.le_refl _)] at hS'
          obtain ⟨h', g', d', tk', os'⟩ := s'
          have eg : g' = s.gens := hm.gens
          have ed : d' = s.drawn := hm.drawn
          have eo : os' = s.os := hm.os
          subst eg; subst ed; subst eo
          show wpAny _ _ _ _ _ _
          refine wpAny_pure ?_
          show wpAny _ _ (ret Value.none) _ _ _
          refine wpAny_pure ⟨rfl, h', tk', m', by omega, rfl, hS', fun b o hb e => ?_⟩
          have hb1 : b ≠ s.heap.objs.size := Nat.ne_of_lt hb
          have hb2 : b ≠ (s.heap.push { cls := .type "set", dict := none, data := .set #[] 0 (.fresh 0 0 led) }).objs.size := by
            rw [Heap.size_push]; exact Nat.ne_of_lt (Nat.lt_succ_of_lt hb)
          exact hm.heap b o (by simp only [List.mem_cons, List.mem_singleton, List.not_mem_nil, or_false, not_or]; exact ⟨hb1, hb2⟩) (Heap.get?_push_of_some _ (Heap.get?_push_of_some _ e))

      · cases r₂ with
        | error e => exact hr₂
        | ok fl₂ =>
          cases fl₂ with
          | ret r =>
            obtain ⟨rfl, h', tk, m', hm', rfl, hS', hk'⟩ := hr₂
            repeat (any_goals (first | assumption | wp_step))
            exact h _ _ _ hm' hS' hk'
          | _ => exact hr₂.elim
    | _ => exact hr.elim

set_option maxHeartbeats 3200000 in
theorem set_of_tup {l : Addr} {items : Array Value} {xs : List Str} {Q : Value → Shared → Prop}
    (hh : A.handled = none) (hl : s.heap.IsTuple l items) (hi : PyProof.Rows.StrsAre items.toList xs) (hn1 : xs.length < 64)
    (h : ∀ (h' : Heap) (tk m : Nat), m < 64 → SetS w h' s.heap.objs.size (fun k' => xs.any (· == k')) m →
      (∀ b o, b < s.heap.objs.size → s.heap.get? b = some o → h'.get? b = some o) → Q (.ref s.heap.objs.size) { s with heap := h', toks := tk }) :
    wpAny (model prog w) A (call (.type "set") [.ref l]) Q E s := by
  obtain ⟨c, tl, hmro⟩ := PySem.F.called_set.mro
  have hmade := PySem.F.called_set.made
  have hsub := PySem.F.called_set.sub
  refine wpAny_call (codeAny_of_tree ?_)
  show wpAny _ _ (callAny (.type "set") _) _ _ _
  refine wpAny_pure ⟨Code.quiet_builtin _ (by decide +kernel), codeAny_builtin PySem.F.entry_type_call ?_⟩
  rw [Around.under_plain (weight_type_call_type "set" [.ref l] []) rfl]
  have h1 := PySem.F.called_set.notType
  have h2 := PySem.F.called_set.canCreate
  have hct := PySem.F.typeCall_set_1 (.ref l)
  repeat (any_goals (first | assumption | wp_step))

  refine codeAny_mono (code_set_led1 (.ref l) (E := E) (Q₁ := fun obj s₁ => ∃ led : Bool, (w.params.followText "set-order" = true ∨ led = true) ∧ obj = .ref s.heap.objs.size ∧ s₁ = { s with heap := s.heap.push { cls := .type "set", dict := none, data := .set #[] 0 (.fresh 0 0 led) } }) fun led hd => ⟨led, hd, rfl, rfl⟩) fun r s₁ hr => ?_
  cases r with
  | error e => exact hr
  | ok fl =>
    cases fl with
    | ret obj =>
      obtain ⟨led, hled, rfl, rfl⟩ := hr
      have hS : (s.heap.push { cls := .type "set", dict := none, data := .set #[] 0 (.fresh 0 0 led) }).get? s.heap.objs.size = some { cls := .type "set", dict := none, data := .set #[] 0 (.fresh 0 0 led) } := Heap.get?_push_size _ rfl
      have hT : Shared.TypeIs { s with heap := s.heap.push { cls := .type "set", dict := none, data := .set #[] 0 (.fresh 0 0 led) } } (.ref s.heap.objs.size) "set" := ⟨_, hS, rfl⟩
      have hli := PySem.F.called_set.init.lookup
      have hbi := PySem.F.called_set.init.bind (.ref s.heap.objs.size)
      repeat (any_goals (first | assumption | wp_step))

      refine codeAny_mono (codeAny_call_builtin (R := wants (fun r s₂ => r = .none ∧ ∃ h' tk m, m < 64 ∧ s₂ = { s with heap := h', toks := tk } ∧
          SetS w h' s.heap.objs.size (fun k' => xs.any (· == k')) m ∧
          (∀ b o, b < s.heap.objs.size → s.heap.get? b = some o → h'.get? b = some o)) E) PySem.F.called_set.init.plain PySem.F.entry_set_init (check_set_init_1 hT ?_)) fun r₂ s₂ hr₂ => ?_
      · obtain ⟨ol, hol, hcl, nl, hdl⟩ := hl
        obtain ⟨ocls, odict, odata, oslots⟩ := ol
        simp only at hcl hdl
        subst hcl; subst hdl
        have hol' : (s.heap.push { cls := .type "set", dict := none, data := .set #[] 0 (.fresh 0 0 led) }).get? l = some { cls := .type "tuple", dict := odict, data := .seq items nl, slots := oslots } := Heap.get?_push_of_some _ hol
        have hsls := PySem.F.sub_tuple_set
        have hslf := PySem.F.sub_tuple_frozenset
        have hne : (Value.type "tuple" == Value.type "dict") = false := by decide
        have hl1 : (s.heap.push { cls := .type "set", dict := none, data := .set #[] 0 (.fresh 0 0 led) }).IsTuple l items := ⟨_, hol', rfl, nl, rfl⟩
        unfold Builtin.«set.__init__» noKeywords Builtin.Frozenset.updateFrom
        generalize hPI : pyIter = PI
        wp_walk
        subst hPI

        refine wpAny_pyIter_tuple hl1 ?_
        refine wpAny_bind (wpAny_runValue ?_)
        have hlS : l < s.heap.objs.size := Heap.lt_size hol
        have hh3 : A.in1.in1.in1.handled = none := by simp [hh]
        have hneI : l ≠ (s.heap.push { cls := .type "set", dict := none, data := .set #[] 0 (.fresh 0 0 led) }).objs.size := by
          rw [Heap.size_push]; exact Nat.ne_of_lt (Nat.lt_succ_of_lt hlS)
        have hSf : s.heap.objs.size ∉ [(s.heap.push { cls := .type "set", dict := none, data := .set #[] 0 (.fresh 0 0 led) }).objs.size, l] := by
          rw [Heap.size_push]; simp only [List.mem_cons, List.mem_singleton, List.not_mem_nil, or_false, not_or]
          exact ⟨Nat.ne_of_lt (Nat.lt_succ_self _), Nat.ne_of_gt hlS⟩
        have hsz : xs.length = items.size := by rw [← StrsAre.len_eq hi, Array.length_toList]
        have hval : ∀ (i : Nat) (v : Value), items[i]? = some v → ∃ t, v = .str (xs.getD i Str.empty) t := fun i v hv => SS.strs_at hi i v (by rw [Array.getElem?_toList]; exact hv)
        refine loopS ((Walks.tuple hh3 _ l hneI items).toS) s.heap.objs.size
          hSf xs hsz (by rw [← hsz]; exact hn1) hval (items.size - 0) 0 0 _ (by omega) (Nat.zero_le _) (Nat.le_refl _)
          ⟨⟨_, Heap.get?_push_size _ rfl, rfl, rfl⟩, (hl1.push _)⟩ ?hS0 ?hR
        case hS0 =>
          have hget : ((s.heap.push { cls := .type "set", dict := none, data := .set #[] 0 (.fresh 0 0 led) }).push { cls := .type "tuple_iterator", data := .fields #[.ref l, .int 0 0] }).get? s.heap.objs.size
              = some { cls := .type "set", dict := none, data := .set #[] 0 (.fresh 0 0 led) } := Heap.get?_push_of_some _ hS
          exact (setS_fresh hget hled).congr fun _ => by simp
        case hR =>
          intro s' m' hle hm hS'
          rw [List.take_of_length_le (by rw [hsz] <;> exact Nat.le_refl _)] at hS'
          obtain ⟨h', g', d', tk', os'⟩ := s'
          have eg : g' = s.gens := hm.gens
          have ed : d' = s.drawn := hm.drawn
          have eo : os' = s.os := hm.os
          subst eg; subst ed; subst eo
          show wpAny _ _ _ _ _ _
          refine wpAny_pure ?_
          show wpAny _ _ (ret Value.none) _ _ _
          refine wpAny_pure ⟨rfl, h', tk', m', by omega, rfl, hS', fun b o hb e => ?_⟩
          have hb1 : b ≠ s.heap.objs.size := Nat.ne_of_lt hb
          have hb2 : b ≠ (s.heap.push { cls := .type "set", dict := none, data := .set #[] 0 (.fresh 0 0 led) }).objs.size := by
            rw [Heap.size_push]; exact Nat.ne_of_lt (Nat.lt_succ_of_lt hb)
          exact hm.heap b o (by simp only [List.mem_cons, List.mem_singleton, List.not_mem_nil, or_false, not_or]; exact ⟨hb1, hb2⟩) (Heap.get?_push_of_some _ (Heap.get?_push_of_some _ e))

      · cases r₂ with
        | error e => exact hr₂
        | ok fl₂ =>
          cases fl₂ with
          | ret r =>
            obtain ⟨rfl, h', tk, m', hm', rfl, hS', hk'⟩ := hr₂
            repeat (any_goals (first | assumption | wp_step))
            exact h _ _ _ hm' hS' hk'
          | _ => exact hr₂.elim
    | _ => exact hr.elim

end
end DL
end
section
set_option Elab.async false
set_option linter.all false
set_option maxRecDepth 100000
set_option autoImplicit false
set_option maxHeartbeats 4000000
/-! DL10: sorted(set(xs)), len(set(xs)), as the evaluator has it. -/
namespace DL
open PySem PySem.Spec PyProof.Rows L2 LamX

section
variable {Z : Fix} {X : Cx} {φ : Ph} {G H : Hp} {M : Store} {W : WX} {σ : L2.St}
def SetSO (w : World) (a : Addr) (S : Str → Bool) (n : Nat) : HO := .ext fun h => SetS w h a S n
def rSetS (K : PySem.W.Frag) (w : World) : List V → Hp → VK → Prop := fun xs H Q => ∃ l, ∃ ys : List Str, xs = [.ref l] ∧ (SqL K H l (ys.map V.str) ∨ SqT K H l (ys.map V.str)) ∧ ys.length < 64 ∧
  ∀ p m, m < 64 → H p = none → Q (.ref p) (upd H p (SetSO w p (fun k => ys.any (· == k)) m))
theorem call_setS (hc : X.calm = true) : CallR X (.type "set") (rSetS X.K X.w) := by
  intro pins s σ H xs us Q I r h
  obtain ⟨l, ys, rfl, hq, h64, q⟩ := h
  obtain ⟨u, rfl, rx⟩ := vals1 r
  cases rx
  have fin : ∀ (h' : Heap) (tk m : Nat), m < 64 → SetS X.w h' s.heap.objs.size (fun k' => ys.any (· == k')) m → (∀ b o, b < s.heap.objs.size → s.heap.get? b = some o → h'.get? b = some o) →
      EP X pins σ Q (.ref s.heap.objs.size) { s with heap := h', toks := tk } := fun h' tk m hm hS hk => by
    have hn : H s.heap.objs.size = none := I.hok.fresh (Nat.le_refl _)
    obtain ⟨o, es, ep, t, ho, rest⟩ := id hS
    exact ⟨.ref s.heap.objs.size, _, I.laid (t' := tk) (o := SetSO X.w s.heap.objs.size (fun k => ys.any (· == k)) m) (fun b o e => hk b o (Heap.lt_size e) e) (Nat.le_refl _) ⟨hS, ⟨_, ho⟩, fun _ _ a k => SetS.at a k⟩, rfl, q _ m hm hn⟩
  rcases hq with hq | hq
  · obtain ⟨its, r, pl, hz⟩ := I.list hq
    exact set_of_list (I.ok.hd hc) pl.isList (by simpa using strsAre_of r) h64 fun h' tk m hm hS hk => fin h' tk m hm hS hk
  · obtain ⟨its, r, pl, hz⟩ := I.tuple hq
    exact set_of_tup (I.ok.hd hc) pl (by simpa using strsAre_of r) h64 fun h' tk m hm hS hk => fin h' tk m hm hS hk
theorem setSO_get {pins : List (Addr × Obj)} {s : Shared} {w : World} {a : Addr} {S : Str → Bool} {n : Nat} (I : Inv X pins σ H s) (h : H a = some (SetSO w a S n)) : SetS w s.heap a S n :=
  (show ObjOk X.prog X.w H s.heap a (SetSO w a S n) from I.hok a _ h).1
def rLenSetS (w : World) : List V → Hp → VK → Prop := fun xs H Q => ∃ a S n, xs = [.ref a] ∧ H a = some (SetSO w a S n) ∧ ∀ l : List Str, l.Nodup → (∀ k, k ∈ l ↔ S k = true) → Q (.int l.length) H
theorem call_lenSetS : CallR X (.builtin "len") (rLenSetS X.w) := by
  intro pins s σ H xs us Q I r h
  obtain ⟨a, S, n, rfl, ha, q⟩ := h
  obtain ⟨u, rfl, rx⟩ := vals1 r
  cases rx
  obtain ⟨o, es, ep, t, ho, hex, hd, g, nd, hm, hb, hf, hn, hr, hl⟩ := setSO_get I ha
  have e : (es.toList.map keyS).length = es.size := by rw [List.length_map, Array.length_toList]
  have hq := q (es.toList.map keyS) nd (fun k => (hm k).symm)
  rw [e] at hq
  exact call_len_set ho hex hd hf (by have := scanBound; unfold scanBound at hb; omega) ⟨.int es.size, H, I.tok _, ⟨_, rfl⟩, hq⟩
def rSortSetS (w : World) : List V → Hp → VK → Prop := fun xs H Q => ∃ a S n, xs = [.ref a] ∧ H a = some (SetSO w a S n) ∧ n < 64 ∧
  ∀ (ys : List Str) (p : Addr), PyProof.Rows.sortedS ys = true → ys.Nodup → (∀ k, k ∈ ys ↔ S k = true) → H p = none → Q (.ref p) (upd H p (.lst (ys.map V.str)))
theorem strs_ofS : ∀ {l : List Value}, (∀ v ∈ l, ∃ k tk, v = Value.str k tk) → PyProof.Rows.StrsAre l (l.map fun v => keyS (0, v))
  | [], _ => .nil
  | v :: l, h => by
    obtain ⟨k, tk, rfl⟩ := h v List.mem_cons_self
    exact .cons k tk (strs_ofS fun u hu => h u (List.mem_cons_of_mem _ hu))
section
variable {P : Program} {w : World} {A : Around} {E : Value → Shared → Prop} {s : Shared} {a : Addr} {S : Str → Bool} {n : Nat}
theorem sorted_setS {Q : Value → Shared → Prop} (R : SetS w s.heap a S n) (hh : A.handled = none) (h64 : n < 64)
    (hQ : ∀ s' p (out : Array Value) (c : Nat) (ns : List Str), (∀ b o, s.heap.get? b = some o → s'.heap.get? b = some o) → s'.gens = s.gens → s'.os = s.os → s.heap.objs.size ≤ p →
      s'.heap.get? p = some (seqObj "list" out c) → PyProof.Rows.StrsAre out.toList ns → PyProof.Rows.sortedS ns = true → ns.Nodup → (∀ k, k ∈ ns ↔ S k = true) → ns.length = n → Q (.ref p) s') :
    wpAny (model P w) A (call (.builtin "sorted") [.ref a]) Q E s := by
  obtain ⟨o, es, ep, t, ho, hex, hd, g, nd, hm, hb, hf, hn, hr, hl⟩ := R
  refine Calls.call_function_entry kind_sorted plain_sorted entry_sorted (args_sorted1 _) ?_
  unfold Builtin.«sorted»
  refine wpAny_bind (m := checkCount "sorted" 1 1 _) (wpAny_pure ?_)
  refine wpAny_bind (collect_set (A := A.in1) hh ⟨o, ho, hex.1, hd⟩ hf hb hr hl fun s1 vs k1 hz g1 o1 pm => ?_)
  have hvl : vs.length = n := by rw [pm.length_eq, List.length_map, Array.length_toList]; exact hn
  have hI : PyProof.Rows.StrsAre vs (vs.map fun v => keyS (0, v)) := strs_ofS fun v hv => by
    obtain ⟨e, he, q⟩ := List.mem_map.mp (pm.mem_iff.mp hv)
    obtain ⟨k, tk, h1, _⟩ := g e he
    exact ⟨k, tk, by rw [← q]; exact h1⟩
  have pk : (vs.map fun v => keyS (0, v)).Perm (es.toList.map keyS) := by
    have q := pm.map fun v => keyS (0, v)
    rw [List.map_map] at q
    exact q
  refine wpAny_bind (wpAny_newList ?_ (by rw [hvl, sizeLine_eq]; omega))
  have hoL : (s1.heap.push (seqObj "list" vs.toArray 0)).get? s1.heap.objs.size = some (seqObj "list" vs.toArray 0) := Heap.get?_push_size _ rfl
  refine wpAny_bind (wpAny_holding (wpAny_call_entry slot_list_sort ⟨_, hoL, rfl⟩ entry_list_sort (list_sort_treeK PyProof.Rows.strKind_oneLt hoL hI.keysOf (fun v₁ v₂ rest e => PyProof.Rows.keyKind_strs (by rw [← e]; exact hI)) (by rw [hvl]; exact h64) fun st' hp hs => ?_) (args_list_sort _)))
  obtain ⟨ns', a1, a2, a3⟩ := PyProof.Rows.sorted_out_str hI hp hs
  obtain ⟨c, hc⟩ := sortedHeap_at (vs := vs) (out := (arrOf st').map (·.2)) hoL
  have pn : ns'.Perm (es.toList.map keyS) := a2.trans pk
  refine ⟨_, rfl, wpAny_pure ⟨_, rfl, hQ _ s1.heap.objs.size _ c ns' (fun b u e => ?_) g1 o1 hz hc a1 a3 (pn.nodup_iff.mpr nd) (fun k => by rw [pn.mem_iff, ← hm k]) ?_⟩⟩
  · have q := k1 b u e
    have hlt := Heap.lt_size q
    show (sortedHeap (s1.heap.push (seqObj "list" vs.toArray 0)) s1.heap.objs.size vs _).get? b = some u
    rw [sortedHeap_old (Nat.ne_of_lt hlt) (by rw [size_push']; exact Nat.lt_succ_of_lt hlt)]
    exact Heap.get?_push_of_some _ q
  · rw [pn.length_eq, List.length_map, Array.length_toList]; exact hn
end
theorem cr_sortedSetS (hc : X.calm = true) : CallR X (.builtin "sorted") (rSortSetS X.w) := by
  intro pins s σ H vs us Q I r h
  obtain ⟨a, S, n, rfl, ha, h64, q⟩ := h
  rw [Vals.ref1 r]
  refine sorted_setS (setSO_get I ha) (I.ok.hd hc) h64 fun s' p out c ns k g o hp hg hi hs hnd hm hl => ?_
  have hlen : (ns.map V.str).length ≤ sizeLine := by rw [List.length_map, hl, sizeLine_eq]; omega
  have hn : H p = none := I.hok.fresh hp
  have J : Inv X pins σ (upd H p (.lst (ns.map V.str))) { s with heap := s'.heap, gens := s'.gens, drawn := s'.drawn, toks := s'.toks } :=
    I.call (ch := []) (Un.laid k hp hn) (I.hok.laid k hp ⟨hlen, out.toList, c, vals_of_strs hi, hg⟩) (by rw [g]; exact I.bare) (fun _ z => nomatch z)
  have e : s' = { s with heap := s'.heap, gens := s'.gens, drawn := s'.drawn, toks := s'.toks } := by
    cases s'
    cases s
    cases o
    rfl
  rw [e]
  exact ⟨.ref p, _, J, rfl, q ns p hs hnd hm hn⟩
/-! ### ascending lists without doubles -/
theorem pw_ext {α : Type} {lt : α → α → Prop} (ir : ∀ a, ¬ lt a a) (tr : ∀ a b c, lt a b → lt b c → lt a c) : ∀ {xs ys : List α}, xs.Pairwise lt → ys.Pairwise lt → (∀ a, a ∈ xs ↔ a ∈ ys) → xs = ys
  | [], [], _, _, _ => rfl
  | [], y :: ys, _, _, h => absurd ((h y).2 List.mem_cons_self) (by simp)
  | x :: xs, [], _, _, h => absurd ((h x).1 List.mem_cons_self) (by simp)
  | x :: xs, y :: ys, hx, hy, h => by
    obtain ⟨x1, x2⟩ := List.pairwise_cons.mp hx
    obtain ⟨y1, y2⟩ := List.pairwise_cons.mp hy
    have e : x = y := by
      rcases List.mem_cons.mp ((h x).1 List.mem_cons_self) with e | m
      · exact e
      · rcases List.mem_cons.mp ((h y).2 List.mem_cons_self) with e | m'
        · exact e.symm
        · exact absurd (tr _ _ _ (x1 y m') (y1 x m)) (ir x)
    subst e
    rw [pw_ext ir tr x2 y2 fun a => ?_]
    constructor
    · intro m
      rcases List.mem_cons.mp ((h a).1 (List.mem_cons_of_mem _ m)) with e | m'
      · subst e
        exact absurd (x1 a m) (ir a)
      · exact m'
    · intro m
      rcases List.mem_cons.mp ((h a).2 (List.mem_cons_of_mem _ m)) with e | m'
      · subst e
        exact absurd (y1 a m) (ir a)
      · exact m'
theorem ltN_tr {a b c : List Nat} (h : ltN a b = true) (k : ltN b c = true) : ltN a c = true := by
  rw [ltN_iff, decide_eq_true_eq] at *
  exact List.lt_trans h k
theorem ltN_ir (a : List Nat) : ¬ ltN a a = true := by
  rw [ltN_iff, decide_eq_true_eq]
  exact List.lt_irrefl a
theorem ltN_tri : ∀ a b : List Nat, a = b ∨ ltN a b = true ∨ ltN b a = true
  | [], [] => .inl rfl
  | [], _ :: _ => .inr (.inl rfl)
  | _ :: _, [] => .inr (.inr rfl)
  | x :: a, y :: b => by
    simp only [ltN]
    by_cases e : x = y
    · subst e
      rw [if_pos rfl, if_pos rfl]
      rcases ltN_tri a b with h | h | h
      · exact .inl (by rw [h])
      · exact .inr (.inl h)
      · exact .inr (.inr h)
    · rw [if_neg e, if_neg (Ne.symm e), decide_eq_true_eq, decide_eq_true_eq]
      omega
theorem insN_mem (x a : List Nat) : ∀ ys, a ∈ insN ltN x ys ↔ a = x ∨ a ∈ ys
  | [] => by simp [insN]
  | y :: r => by
    simp only [insN]
    split
    · rename_i e
      subst e
      simp
    · split
      · simp
      · simp only [List.mem_cons, insN_mem x a r]
        exact ⟨fun h => by rcases h with h | h | h <;> simp [h], fun h => by rcases h with h | h | h <;> simp [h]⟩
theorem insN_pw (x : List Nat) : ∀ ys : List (List Nat), ys.Pairwise (fun a b => ltN a b = true) → (insN ltN x ys).Pairwise (fun a b => ltN a b = true)
  | [], _ => by simp [insN]
  | y :: r, h => by
    obtain ⟨h1, h2⟩ := List.pairwise_cons.mp h
    simp only [insN]
    split
    · exact h
    · rename_i e
      split
      · rename_i l
        refine List.pairwise_cons.mpr ⟨fun a ha => ?_, h⟩
        rcases List.mem_cons.mp ha with z | z
        · rw [z]; exact l
        · exact ltN_tr l (h1 a z)
      · rename_i l
        refine List.pairwise_cons.mpr ⟨fun a ha => ?_, insN_pw x r h2⟩
        rcases (insN_mem x a r).1 ha with z | z
        · rw [z]
          rcases ltN_tri x y with q | q | q
          · exact absurd q e
          · exact absurd q l
          · exact q
        · exact h1 a z
theorem setSort_mem (a : List Nat) : ∀ xs, a ∈ setSort ltN xs ↔ a ∈ xs
  | [] => by simp [setSort]
  | x :: r => by
    show a ∈ insN ltN x (setSort ltN r) ↔ _
    rw [insN_mem, setSort_mem a r, List.mem_cons]
theorem setSort_pw : ∀ xs : List (List Nat), (setSort ltN xs).Pairwise (fun a b => ltN a b = true)
  | [] => List.Pairwise.nil
  | x :: r => insN_pw x _ (setSort_pw r)
theorem dedup_mem (a : List Nat) : ∀ xs, a ∈ dedup xs ↔ a ∈ xs
  | [] => by simp [dedup]
  | x :: r => by
    simp only [dedup]
    split
    · rename_i h
      rw [dedup_mem a r, List.mem_cons]
      exact ⟨.inr, fun z => z.elim (fun e => e ▸ h) id⟩
    · rw [List.mem_cons, List.mem_cons, dedup_mem a r]
theorem dedup_nd : ∀ xs : List (List Nat), (dedup xs).Nodup
  | [] => List.nodup_nil
  | x :: r => by
    simp only [dedup]
    split
    · exact dedup_nd r
    · rename_i h
      exact List.nodup_cons.mpr ⟨fun z => h ((dedup_mem x r).1 z), dedup_nd r⟩
theorem ltCps_eq : ∀ a b : List Nat, PySem.Spec.ltCps a b = ltN a b
  | [], [] => rfl
  | [], _ :: _ => rfl
  | _ :: _, [] => rfl
  | x :: a, y :: b => by
    show (decide (x < y) || (x == y && PySem.Spec.ltCps a b)) = if x = y then ltN a b else decide (x < y)
    rw [ltCps_eq a b]
    by_cases e : x = y
    · subst e; simp
    · rw [if_neg e]; simp [e]
theorem rising_pw : ∀ (r : List Str) (p : Str), PyProof.Rows.risingS p r = true → (p :: r).Nodup → (p :: r).Pairwise (fun a b => ltN a.cps.toList b.cps.toList = true)
  | [], p, _, _ => by simp
  | x :: r, p, h, nd => by
    simp only [PyProof.Rows.risingS, Bool.and_eq_true, Bool.not_eq_true'] at h
    obtain ⟨n1, n2⟩ := List.nodup_cons.mp nd
    have ih := rising_pw r x h.2 n2
    have px : ltN p.cps.toList x.cps.toList = true := by
      rcases ltN_tri p.cps.toList x.cps.toList with q | q | q
      · exfalso
        have : p = x := by
          cases p; cases x
          simp only [Str.mk.injEq]
          exact Array.toList_inj.mp q
        exact n1 (this ▸ List.mem_cons_self)
      · exact q
      · rw [ltCps_eq] at h
        rw [h.1] at q
        cases q
    refine List.pairwise_cons.mpr ⟨fun a ha => ?_, ih⟩
    rcases List.mem_cons.mp ha with z | z
    · rw [z]; exact px
    · exact ltN_tr px ((List.pairwise_cons.mp ih).1 a z)
theorem sorted_pw : ∀ (r : List Str), PyProof.Rows.sortedS r = true → r.Nodup → r.Pairwise (fun a b => ltN a.cps.toList b.cps.toList = true)
  | [], _, _ => List.Pairwise.nil
  | x :: r, h, nd => rising_pw r x h nd
theorem mem_cs {xs : List (List Nat)} {k : Str} : k ∈ xs.map cs ↔ k.cps.toList ∈ xs := by
  rw [List.mem_map]
  constructor
  · rintro ⟨a, ha, e⟩
    rw [← e]
    simpa using ha
  · intro h
    exact ⟨_, h, by cases k; simp⟩
theorem sorted_is {ys : List Str} {xs : List (List Nat)} (h : PyProof.Rows.sortedS ys = true) (nd : ys.Nodup) (m : ∀ k, k ∈ ys ↔ (xs.map cs).any (· == k) = true) : ys = (setSort ltN xs).map cs := by
  refine pw_ext (lt := fun a b : Str => ltN a.cps.toList b.cps.toList = true) (fun a => ltN_ir _) (fun a b c h k => ltN_tr h k) (sorted_pw ys h nd) ?_ fun a => ?_
  · rw [List.pairwise_map]
    simp only [cs_tl]
    exact setSort_pw xs
  · rw [m a, mem_cs, setSort_mem, List.any_eq_true]
    constructor
    · rintro ⟨z, hz, e⟩
      have := beq_iff_eq.mp e
      subst this
      exact mem_cs.mp hz
    · intro h
      exact ⟨a, mem_cs.mpr h, by simp⟩
theorem len_is {l : List Str} {xs : List (List Nat)} (nd : l.Nodup) (m : ∀ k, k ∈ l ↔ (xs.map cs).any (· == k) = true) : l.length = (dedup xs).length := by
  have p : l.Perm ((dedup xs).map cs) := by
    refine (List.perm_ext_iff_of_nodup nd ?_).mpr fun a => ?_
    · rw [List.Nodup, List.pairwise_map]
      exact (dedup_nd xs).imp fun {a b} h e => h (strsOf_inj e)
    · rw [m a, mem_cs, dedup_mem, List.any_eq_true]
      constructor
      · rintro ⟨z, hz, e⟩
        have := beq_iff_eq.mp e
        subst this
        exact mem_cs.mp hz
      · intro h
        exact ⟨a, mem_cs.mpr h, by simp⟩
  rw [p.length_eq, List.length_map]
/-! ### the rules -/
theorem v_sortedSet (K : PySem.W.Frag) (hK : K = Z.K) {w : World} {x : V} {Q : VK} (h : rO1 Z .sortedSet x H Q) : rSetS K w [x] H fun v H1 => rSortSetS w [v] H1 Q := by
  obtain ⟨φ, M, d, W, σ, m, i, q⟩ := h
  simp only [ev1] at q
  split at q
  · rename_i ds e
    cases hs : strsOf ds with
    | none => rw [hs] at q; exact q.elim
    | some xs =>
      rw [hs] at q
      simp only at q
      split at q
      · rename_i hl
        simp only [Bool.and_eq_true, decide_eq_true_eq] at hl
        obtain ⟨a, vs, rfl, h1, h2⟩ := rv_lst m i e
        obtain ⟨h3, h4, h5⟩ := h2.strsOf hs
        subst h3
        refine ⟨a, xs.map cs, rfl, .inl (SqL.of h1), by rw [List.length_map]; omega, fun p n h64 hp => ?_⟩
        have s := step_new (o := SetSO w p (fun k => (xs.map cs).any (· == k)) n) m hp
        refine ⟨p, _, n, rfl, upd_same, h64, fun ys p2 k1 k2 k3 hp2 => ?_⟩
        rw [sorted_is k1 k2 k3, List.map_map]
        have q2 := post.rebase s q
        refine q2.newL s.m ?_ p2 hp2
        exact Iss.strs fun x hx => h5 x ((setSort_mem x xs).1 hx)
      · exact q.elim
  · exact q.elim
theorem v_lenSet (K : PySem.W.Frag) (hK : K = Z.K) {w : World} {x : V} {Q : VK} (h : rO1 Z .lenSet x H Q) : rSetS K w [x] H fun v H1 => rLenSetS w [v] H1 Q := by
  obtain ⟨φ, M, d, W, σ, m, i, q⟩ := h
  simp only [ev1] at q
  split at q
  · rename_i ds e0
    split at q
    · rename_i xs hs
      split at q
      · rename_i hl
        simp only [Bool.and_eq_true, decide_eq_true_eq] at hl
        have e : rk M d = .lst ds ∨ rk M d = .tup ds := by
          unfold itemsOf at e0
          split at e0
          · rename_i e; cases e0; exact .inr e
          · rename_i e; cases e0; exact .inl e
          · cases e0
        obtain ⟨p, rfl, h1, h2⟩ := strs_seq K hK m i e hs
        refine ⟨p, xs.map cs, rfl, h1, by rw [List.length_map]; omega, fun p n h64 hp => ?_⟩
        have s := step_new (o := SetSO w p (fun k => (xs.map cs).any (· == k)) n) m hp
        refine ⟨p, _, n, rfl, upd_same, fun l k1 k2 => ?_⟩
        rw [len_is k1 k2]
        exact (post.rebase s q).int s.m
      · exact q.elim
    · exact q.elim
  · exact q.elim
theorem tE.mono {f : Env → Store → R D} {Q Q' : VK} (h : tE Z W f σ H Q) (k : ∀ x H1, Q x H1 → Q' x H1) : tE Z W f σ H Q' := by
  obtain ⟨φ, ρ, M, a, q⟩ := h
  exact ⟨φ, ρ, M, a, q.mono k⟩
/-- f(e) by the value of e -/
def fO1 (o : O1) (f : Env → Store → R D) : Env → Store → R D := fun ρ M => (f ρ M).bind fun x M => ofO (ev1 o x M) M
theorem tE.o1 {o : O1} {f : Env → Store → R D} {Q : VK} (h : tE Z W (fO1 o f) σ H Q) : tE Z W f σ H fun x H1 => rO1 Z o x H1 Q := by
  obtain ⟨φ, ρ, M, a, q⟩ := h
  exact (tE.bind a q).mono fun x H1 ⟨φ1, M1, d, a1, s, i, q1⟩ => ⟨φ1, M1, d, W, σ, a1.m, i, q1⟩
/-- sorted(set(e)), len(set(e)) -/
theorem pe_sortedSet {e : Expr} {f : Env → Store → R D} {p p2 q pos : Pos} (hK : X.K = Z.K) (hc : X.calm = true) (hg : Gl X "sorted") (hm : X.mg "sorted" = none) (hg2 : Gl X "set") (hm2 : X.mg "set" = none) (he : PE X e (tE Z W f))
    (h1 : starEach [e] X.env = (false, eval e X.env) :: starEach [] X.env) : PE X (.Call (.Name "sorted" p) [.Call (.Name "set" p2) [e] [] q] [] pos) (tE Z W (fO1 .sortedSet f)) :=
  PE.imp (pe_callB (cr_sortedSetS hc) hg hm (by rfl) (pa_cons (pe_callTy (call_setS hc) hg2 hm2 (by rfl) (pa_cons he pa_nil h1) (he := h1)) pa_nil)) fun σ H Q h =>
    h.o1.mono fun x H1 q => v_sortedSet X.K hK q
theorem pe_lenSetS {e : Expr} {f : Env → Store → R D} {p p2 q pos : Pos} (hK : X.K = Z.K) (hc : X.calm = true) (hg : Gl X "len") (hm : X.mg "len" = none) (hg2 : Gl X "set") (hm2 : X.mg "set" = none) (he : PE X e (tE Z W f))
    (h1 : starEach [e] X.env = (false, eval e X.env) :: starEach [] X.env) : PE X (.Call (.Name "len" p) [.Call (.Name "set" p2) [e] [] q] [] pos) (tE Z W (fO1 .lenSet f)) :=
  PE.imp (pe_callB call_lenSetS hg hm (by rfl) (pa_cons (pe_callTy (call_setS hc) hg2 hm2 (by rfl) (pa_cons he pa_nil h1) (he := h1)) pa_nil)) fun σ H Q h =>
    h.o1.mono fun x H1 q => v_lenSet X.K hK q
/-! ### sorted(e) of texts -/
theorem insS_perm (x : List Nat) : ∀ ys, (insS ltN x ys).Perm (x :: ys)
  | [] => List.Perm.refl _
  | y :: r => by
    simp only [insS]
    split
    · exact ((insS_perm x r).cons y).trans (List.Perm.swap x y r)
    · exact List.Perm.refl _
theorem sortS_perm : ∀ xs : List (List Nat), (sortS ltN xs).Perm xs
  | [] => List.Perm.refl _
  | x :: r => (insS_perm x _).trans ((sortS_perm r).cons x)
theorem ltN_le_tr {a b c : List Nat} (h : ltN b a = false) (k : ltN c b = false) : ltN c a = false := by
  rcases ltN_tri a b with e | e | e
  · rw [e]; exact k
  · rcases ltN_tri b c with f | f | f
    · rw [← f]; exact h
    · have := ltN_tr e f
      cases g : ltN c a with
      | false => rfl
      | true => exact absurd (ltN_tr this g) (ltN_ir a)
    · rw [f] at k; cases k
  · rw [e] at h; cases h
theorem insS_pw (x : List Nat) : ∀ ys : List (List Nat), ys.Pairwise (fun a b => ltN b a = false) → (insS ltN x ys).Pairwise (fun a b => ltN b a = false)
  | [], _ => by simp [insS]
  | y :: r, h => by
    obtain ⟨h1, h2⟩ := List.pairwise_cons.mp h
    simp only [insS]
    split
    · rename_i l
      refine List.pairwise_cons.mpr ⟨fun a ha => ?_, insS_pw x r h2⟩
      rcases List.mem_cons.mp ((insS_perm x r).mem_iff.mp ha) with z | z
      · rw [z]
        cases g : ltN x y with
        | false => rfl
        | true => exact absurd (ltN_tr l g) (ltN_ir y)
      · exact h1 a z
    · rename_i l
      have l : ltN y x = false := by simpa using l
      refine List.pairwise_cons.mpr ⟨fun a ha => ?_, h⟩
      rcases List.mem_cons.mp ha with z | z
      · rw [z]; exact l
      · exact ltN_le_tr l (h1 a z)
theorem sortS_pw : ∀ xs : List (List Nat), (sortS ltN xs).Pairwise (fun a b => ltN b a = false)
  | [] => List.Pairwise.nil
  | x :: r => insS_pw x _ (sortS_pw r)
theorem pw_perm {α : Type} {le : α → α → Prop} (as : ∀ a b, le a b → le b a → a = b) : ∀ {xs ys : List α}, xs.Pairwise le → ys.Pairwise le → xs.Perm ys → xs = ys
  | [], ys, _, _, h => (List.Perm.eq_nil h.symm).symm
  | x :: xs, [], _, _, h => absurd h.length_eq (by simp)
  | x :: xs, y :: ys, hx, hy, h => by
    obtain ⟨x1, x2⟩ := List.pairwise_cons.mp hx
    obtain ⟨y1, y2⟩ := List.pairwise_cons.mp hy
    have e : x = y := by
      rcases List.mem_cons.mp (h.mem_iff.mp (List.mem_cons_self (a := x) (l := xs))) with e | m
      · exact e
      · rcases List.mem_cons.mp (h.mem_iff.mpr (List.mem_cons_self (a := y) (l := ys))) with e | m'
        · exact e.symm
        · exact as _ _ (x1 y m') (y1 x m)
    subst e
    rw [pw_perm as x2 y2 h.cons_inv]
theorem rising_le : ∀ (r : List Str) (p : Str), PyProof.Rows.risingS p r = true → (p :: r).Pairwise (fun a b => ltN b.cps.toList a.cps.toList = false)
  | [], p, _ => by simp
  | x :: r, p, h => by
    simp only [PyProof.Rows.risingS, Bool.and_eq_true, Bool.not_eq_true'] at h
    have ih := rising_le r x h.2
    have px : ltN x.cps.toList p.cps.toList = false := by rw [← ltCps_eq]; exact h.1
    refine List.pairwise_cons.mpr ⟨fun a ha => ?_, ih⟩
    rcases List.mem_cons.mp ha with z | z
    · rw [z]; exact px
    · exact ltN_le_tr px ((List.pairwise_cons.mp ih).1 a z)
theorem sorted_le : ∀ (r : List Str), PyProof.Rows.sortedS r = true → r.Pairwise (fun a b => ltN b.cps.toList a.cps.toList = false)
  | [], _ => List.Pairwise.nil
  | x :: r, h => rising_le r x h
theorem str_ext {a b : Str} (h : a.cps.toList = b.cps.toList) : a = b := by
  cases a; cases b
  simp only [Str.mk.injEq]
  exact Array.toList_inj.mp h
theorem sortS_is {ys : List Str} {xs : List (List Nat)} (h : PyProof.Rows.sortedS ys = true) (p : ys.Perm (xs.map cs)) : ys = (sortS ltN xs).map cs := by
  refine pw_perm (le := fun a b : Str => ltN b.cps.toList a.cps.toList = false) (fun a b h k => ?_) (sorted_le ys h) ?_ (p.trans ((sortS_perm xs).map cs).symm)
  · rcases ltN_tri a.cps.toList b.cps.toList with q | q | q
    · exact str_ext q
    · rw [q] at k; cases k
    · rw [q] at h; cases h
  · rw [List.pairwise_map]
    simp only [cs_tl]
    exact sortS_pw xs
end
end DL
end
section
set_option Elab.async false
set_option linter.all false
set_option maxRecDepth 100000
set_option autoImplicit false
set_option maxHeartbeats 4000000
/-! DL11: expressions: each form's rule. -/
namespace DL
open PySem PySem.Spec PyProof.Rows L2 LamX

section
variable (Z : Fix) (W : WX) (P : Fns) (X : Cx)
/-- expressions, tests, argument lists -/
abbrev RE (e : Expr) (E : E) : Prop := PE X e (tE Z W (ev P E))
abbrev RT (e : Expr) (E : E) : Prop := PT X e (tB Z W (evB P E))
abbrev RW (e : Expr) (E : E) : Prop := PW X e (tB Z W (evB P E))
abbrev RA (es : List Expr) (E : Es) : Prop := PA X es (tL Z W (evs P E))
/-- what is asked of a context -/
structure Gd : Prop where
  hK : X.K = Z.K
  calm : X.calm = true
  room : X.A.units + 100 < cLine
  nd : X.N.Nodup
end
section
variable {Z : Fix} {W : WX} {P : Fns} {X : Cx} {φ : Ph} {H : Hp} {M : Store} {σ : L2.St} {a b c e : Expr} {A B C : E} {pos p p2 p3 : Pos}
theorem tB.mono {f : Env → Store → R Bool} {Q Q' : Bool → Hp → Prop} (h : tB Z W f σ H Q) (k : ∀ x H1, Q x H1 → Q' x H1) : tB Z W f σ H Q' := by
  obtain ⟨φ, ρ, M, a, q⟩ := h
  exact ⟨φ, ρ, M, a, q.mono k⟩
theorem tL.mono {f : Env → Store → R (List D)} {Q Q' : List V → Hp → Prop} (h : tL Z W f σ H Q) (k : ∀ x H1, Q x H1 → Q' x H1) : tL Z W f σ H Q' := by
  obtain ⟨φ, ρ, M, a, q⟩ := h
  exact ⟨φ, ρ, M, a, q.mono k⟩
theorem R.bind_assoc {α β γ : Type} (r : R α) (f : α → Store → R β) (g : β → Store → R γ) : (r.bind f).bind g = r.bind fun a M => (f a M).bind g := by cases r <;> rfl
theorem ofO_bind {α β : Type} (o : Option α) (M : Store) (f : α → Store → R β) : (ofO o M).bind f = match o with | some a => f a M | none => .no := by cases o <;> rfl
/-! ### constants, names -/
theorem r_int {i : Int} {j : Nat} : RE Z W P X (.Constant (.int i) j pos) (.c (.int i)) := PE.imp pe_int fun σ H Q ⟨φ, ρ, M, a, q⟩ => by
  rw [ev] at q
  exact q.int a.m
theorem r_bl {i : Bool} {j : Nat} : RE Z W P X (.Constant (.bool i) j pos) (.c (.bl i)) := PE.imp pe_bl fun σ H Q ⟨φ, ρ, M, a, q⟩ => by
  rw [ev] at q
  exact q.bl a.m
theorem r_non {j : Nat} : RE Z W P X (.Constant .none j pos) (.c .non) := PE.imp pe_non fun σ H Q ⟨φ, ρ, M, a, q⟩ => by
  rw [ev] at q
  exact q.fin a.m (by rw [Is])
theorem r_str {x : Str} {y : List Nat} {j : Nat} (h : (decide (x = cs y) && y.all (fun c => decide (c < 1114112))) = true) : RE Z W P X (.Constant (.str x) j pos) (.c (.str y)) := by
  obtain ⟨h1, h2⟩ := Bool.and_eq_true_iff.mp h
  have e := of_decide_eq_true h1
  subst e
  refine PE.imp pe_str fun σ H Q ⟨φ, ρ, M, a, q⟩ => ?_
  rw [ev] at q
  exact q.str a.m h2
theorem r_v {i : Nat} {x : Str} (hN : X.N[i]? = some x) (hv : Vis X.env.scope x) (hd : (x == ("__debug__" : Str)) = false) (hc : (x == ("__classdict__" : Str)) = false) : RE Z W P X (.Name x pos) (.v i) :=
  PE.imp (pe_var hN hv hd hc) fun σ H Q ⟨φ, ρ, M, a, q⟩ => by
    simp only [ev, getV] at q
    split at q
    · rename_i d e
      obtain ⟨v, e1, e2⟩ := a.e.2 i d e
      exact ⟨v, e1, q.fin a.m e2⟩
    · exact q.elim
/-- a constant of the module -/
theorem r_g {i : Nat} {d : D} {x : Str} {v : V} {u : Value} (hg : Gl X x) (hm : X.mg x = some u) (r : RelV v u) (hP : P.G i = some d) (hd : ∀ φ G, Is Z φ G d v) (hx : (x == ("__debug__" : Str)) = false) : RE Z W P X (.Name x pos) (.g i) :=
  PE.imp (pe_glob hg hm r hx) fun σ H Q ⟨φ, ρ, M, a, q⟩ => by
    simp only [ev, hP] at q
    exact q.fin a.m (hd _ _)
/-! ### operations -/
theorem tO2 {o : O2} {Q : VK} {fa fb : Env → Store → R D} (h : tE Z W (fun ρ M => (fa ρ M).bind fun x M => (fb ρ M).bind fun y M => ofO (ev2 o x y M) M) σ H Q) : tOp (rO2 Z o) (tE Z W fa) (tE Z W fb) σ H Q := by
  obtain ⟨φ, ρ, M, a, q⟩ := h
  exact (tE.bind a q).mono fun x H1 ⟨φ1, M1, d, a1, s1, i, q1⟩ => (tE.bind a1 q1).mono fun y H2 ⟨φ2, M2, e, a2, s2, j, q2⟩ => ⟨φ2, M2, d, e, W, σ, a2.m, s2.is i, j, q2⟩
theorem r_bin {op : Operator} {o : O2} (ho : OpR X (binaryOp op) (rO2 Z o)) (ha : RE Z W P X a A) (hb : RE Z W P X b B) : RE Z W P X (.BinOp a op b pos) (.o2 o A B) :=
  PE.imp (pe_op ho ha hb) fun σ H Q h => tO2 (ev_o2 P _ A B ▸ h)
theorem r_cmp {op : CmpOp} {o : O2} (ho : OpR X (compareOp op) (rO2 Z o)) (ha : RE Z W P X a A) (hb : RE Z W P X b B) (hm : behindInMarks op b = false) : RE Z W P X (.Compare a [op] [b] pos) (.o2 o A B) :=
  PE.imp (pe_cmpR ho ha hb hm) fun σ H Q h => tO2 (ev_o2 P _ A B ▸ h)
theorem r_ix (g : Gd Z X) (ha : RE Z W P X a A) (hb : RE Z W P X b B) (hs : PlainIx b) : RE Z W P X (.Subscript a b pos) (.o2 .ix A B) :=
  PE.imp (pe_ix (o2_ix g.hK (by have := g.room; omega)) ha hb hs) fun σ H Q h => tO2 (ev_o2 P _ A B ▸ h)
theorem r_un (ha : RE Z W P X a A) : RE Z W P X (.UnaryOp .USub a pos) (.o1 .neg A) :=
  PE.imp (pe_un un1_neg ha) fun σ H Q h => by
    rw [ev_o1] at h
    exact tE.o1 h
/-- tests: of bools that are computed -/
theorem tB.tru {Q : Bool → Hp → Prop} {f : Env → Store → R D} (K : PySem.W.Frag) (hK : K = Z.K) (h : tB Z W (fun ρ M => (f ρ M).bind fun x M => ofO (truth M x) M) σ H Q) : tE Z W f σ H fun x H' => ∃ k, TruV K x H' k ∧ Q k H' := by
  obtain ⟨φ, ρ, M, a, q⟩ := h
  refine (tE.bind a q).mono fun x H1 ⟨φ1, M1, d, a1, s1, i, q1⟩ => ?_
  cases e : truth M1 d with
  | none => rw [e] at q1; exact q1.elim
  | some k =>
    rw [e] at q1
    exact ⟨k, truV a1.m K hK i e, q1.fin a1.m rfl⟩
def plainT (E : E) : Prop := ∀ P : Fns, evB P E = fun ρ M => (ev P E ρ M).bind fun x M => ofO (truth M x) M
theorem t_val (g : Gd Z X) (ha : RE Z W P X a A) (hA : plainT A) (he : ∀ whole, isTrue a X.env whole = (do let v ← whole; standAt a.pos; holding [v] (truthy v))) : RT Z W P X a A :=
  PT.imp (pt_truth ha he) fun σ H Q h => by
    rw [hA P] at h
    exact tB.tru X.K g.hK h
/-- of a comparison: its value is a bool -/
def boolO (o : O2) : Bool := match o with
  | .eq | .ne | .lt | .le | .gt | .ge | .isin | .notin | .isN | .notN => true
  | _ => false
theorem boolO_is {o : O2} {x y d : D} {M : Store} (h : boolO o = true) (e : ev2 o x y M = some d) : ∃ k, d = .bl k := by
  cases o with
  | eq => simp only [ev2, Option.map_eq_some_iff] at e; obtain ⟨k, _, e⟩ := e; exact ⟨k, e.symm⟩
  | ne => simp only [ev2, Option.map_eq_some_iff] at e; obtain ⟨k, _, e⟩ := e; exact ⟨_, e.symm⟩
  | isin => simp only [ev2, Option.map_eq_some_iff] at e; obtain ⟨k, _, e⟩ := e; exact ⟨k, e.symm⟩
  | notin => simp only [ev2, Option.map_eq_some_iff] at e; obtain ⟨k, _, e⟩ := e; exact ⟨_, e.symm⟩
  | lt => simp only [ev2] at e; split at e <;> cases e <;> exact ⟨_, rfl⟩
  | le => simp only [ev2] at e; split at e <;> cases e <;> exact ⟨_, rfl⟩
  | gt => simp only [ev2] at e; split at e <;> cases e <;> exact ⟨_, rfl⟩
  | ge => simp only [ev2] at e; split at e <;> cases e <;> exact ⟨_, rfl⟩
  | isN => simp only [ev2] at e; split at e <;> cases e <;> exact ⟨_, rfl⟩
  | notN => simp only [ev2] at e; split at e <;> cases e <;> exact ⟨_, rfl⟩
  | _ => cases h
theorem truth_bl {M : Store} {k : Bool} : truth M (.bl k) = some k := rfl
theorem t_cmp {op : CmpOp} {o : O2} (ho : OpR X (compareOp op) (rO2 Z o)) (hb2 : boolO o = true) (ha : RE Z W P X a A) (hb : RE Z W P X b B) (hm : behindInMarks op b = false) : RT Z W P X (.Compare a [op] [b] pos) (.o2 o A B) :=
  PT.imp (pt_cmpR ho ha hb hm) fun σ H Q h => by
    obtain ⟨φ, ρ, M, a, q⟩ := h
    have q : post Z IsB W σ φ H ((ev P A ρ M).bind fun x M => (ev P B ρ M).bind fun y M => (ofO (ev2 o x y M) M).bind fun x M => ofO (truth M x) M) Q := by
      simpa only [evB, ev_o2, R.bind_assoc] using q
    refine (tE.bind a q).mono fun x H1 ⟨φ1, M1, d, a1, s1, i, q1⟩ => (tE.bind a1 q1).mono fun y H2 ⟨φ2, M2, e, a2, s2, j, q2⟩ => ⟨φ2, M2, d, e, W, σ, a2.m, s2.is i, j, ?_⟩
    cases h : ev2 o d e M2 with
    | none => rw [h] at q2; exact q2.elim
    | some z =>
      obtain ⟨k, rfl⟩ := boolO_is hb2 h
      rw [h] at q2
      exact fun φ' v H' s' i' => ⟨k, by rw [Is] at i'; exact i', q2 φ' k H' s' rfl⟩
/-! ### and, or, not, if -/
def isPlain : E → Bool
  | .not _ => false
  | .and _ _ => false
  | .or _ _ => false
  | _ => true
theorem plainT_of {E : E} (h : isPlain E = true) : plainT E := fun P => by
  funext ρ M
  cases E with
  | not a => cases h
  | and a b => cases h
  | or a b => cases h
  | _ => rw [evB] <;> (intros; contradiction)
theorem t_not (ha : RT Z W P X a A) : RT Z W P X (.UnaryOp .Not a pos) (.not A) :=
  PT.imp (pt_not ha) fun σ H Q ⟨φ, ρ, M, a, q⟩ => by
    rw [evB] at q
    exact (tB.bind a q).mono fun k H1 ⟨φ1, M1, a1, s1, q1⟩ => q1.fin a1.m rfl
theorem w_one (ha : RT Z W P X a A) : RW Z W P X (.BoolOp .And [a] pos) A := pw_and1 ha
theorem w_one' (ha : RT Z W P X a A) : RW Z W P X (.BoolOp .Or [a] pos) A := pw_or1 ha
theorem PW.imp {e : Expr} {t t' : TT} (h : PW X e t) (k : ∀ σ H Q, t' σ H Q → t σ H Q) : PW X e t' := ⟨fun wh pins s σ H Q I q => h.run wh pins s σ H Q I (k σ H Q q)⟩
theorem w_and {rest : List Expr} (ha : RT Z W P X a A) (hb : RW Z W P X (.BoolOp .And (b :: rest) pos) B) : RW Z W P X (.BoolOp .And (a :: b :: rest) pos) (.and A B) :=
  PW.imp (pw_and ha hb) fun σ H Q ⟨φ, ρ, M, a, q⟩ => by
    rw [evB] at q
    refine (tB.bind a q).mono fun k H1 ⟨φ1, M1, a1, s1, q1⟩ => ?_
    cases k with
    | true => exact ⟨φ1, ρ, M1, a1, q1⟩
    | false => exact q1.fin a1.m rfl
theorem w_or {rest : List Expr} (ha : RT Z W P X a A) (hb : RW Z W P X (.BoolOp .Or (b :: rest) pos) B) : RW Z W P X (.BoolOp .Or (a :: b :: rest) pos) (.or A B) :=
  PW.imp (pw_or ha hb) fun σ H Q ⟨φ, ρ, M, a, q⟩ => by
    rw [evB] at q
    refine (tB.bind a q).mono fun k H1 ⟨φ1, M1, a1, s1, q1⟩ => ?_
    cases k with
    | true => exact q1.fin a1.m rfl
    | false => exact ⟨φ1, ρ, M1, a1, q1⟩
theorem r_not (g : Gd Z X) (ha : RE Z W P X a A) : RE Z W P X (.UnaryOp .Not a pos) (.not A) :=
  PE.imp (pe_notT ha) fun σ H Q ⟨φ, ρ, M, a, q⟩ => by
    rw [ev] at q
    refine (tE.bind a q).mono fun x H1 ⟨φ1, M1, d, a1, s1, i, q1⟩ => ?_
    cases e : truth M1 d with
    | none => rw [e] at q1; exact q1.elim
    | some k =>
      rw [e] at q1
      exact ⟨k, truV a1.m X.K g.hK i e, q1.bl a1.m⟩
theorem asB_bl {d : D} {f : Bool → R D} {R' : R D → Prop} (h : R' (asB d f)) (no : ¬ R' .no) : ∃ k, d = .bl k ∧ R' (f k) := by
  cases d with
  | bl k => exact ⟨k, rfl, h⟩
  | _ => exact absurd h no
theorem r_one {op : BoolOp} (ha : RE Z W P X a A) : RE Z W P X (.BoolOp op [a] pos) A := pe_one ha
theorem r_and {rest : List Expr} (ha : RE Z W P X a A) (hb : RE Z W P X (.BoolOp .And (b :: rest) pos) B) : RE Z W P X (.BoolOp .And (a :: b :: rest) pos) (.and A B) :=
  PE.imp (pe_and ha hb) fun σ H Q ⟨φ, ρ, M, a, q⟩ => by
    rw [ev] at q
    refine (tE.bind a q).mono fun x H1 ⟨φ1, M1, d, a1, s1, i, q1⟩ => ?_
    obtain ⟨k, rfl, q2⟩ := asB_bl (R' := fun r => post Z (Is Z) W σ φ1 H1 r Q) q1 id
    refine ⟨k, by rw [Is] at i; exact i, ?_⟩
    cases k with
    | true => exact ⟨φ1, ρ, M1, a1, q2⟩
    | false => exact q2.bl a1.m
theorem r_or {rest : List Expr} (ha : RE Z W P X a A) (hb : RE Z W P X (.BoolOp .Or (b :: rest) pos) B) : RE Z W P X (.BoolOp .Or (a :: b :: rest) pos) (.or A B) :=
  PE.imp (pe_or ha hb) fun σ H Q ⟨φ, ρ, M, a, q⟩ => by
    rw [ev] at q
    refine (tE.bind a q).mono fun x H1 ⟨φ1, M1, d, a1, s1, i, q1⟩ => ?_
    obtain ⟨k, rfl, q2⟩ := asB_bl (R' := fun r => post Z (Is Z) W σ φ1 H1 r Q) q1 id
    refine ⟨k, by rw [Is] at i; exact i, ?_⟩
    cases k with
    | true => exact q2.bl a1.m
    | false => exact ⟨φ1, ρ, M1, a1, q2⟩
theorem r_ife (hc : RT Z W P X c C) (ha : RE Z W P X a A) (hb : RE Z W P X b B) : RE Z W P X (.IfExp c a b pos) (.ife C A B) :=
  PE.imp (pe_ifExp hc ha hb) fun σ H Q ⟨φ, ρ, M, a, q⟩ => by
    rw [ev] at q
    refine (tB.bind a q).mono fun k H1 ⟨φ1, M1, a1, s1, q1⟩ => ?_
    cases k with
    | true => exact ⟨φ1, ρ, M1, a1, q1⟩
    | false => exact ⟨φ1, ρ, M1, a1, q1⟩
theorem r_chain {op op' : CmpOp} {o o' : O2} (ho : OpR X (compareOp op) (rO2 Z o)) (ho' : OpR X (compareOp op') (rO2 Z o')) (hb2 : boolO o = true) (ha : RE Z W P X a A) (hb : RE Z W P X b B) (hc : RE Z W P X c C)
    (hm : lastMarks [op, op'] [b, c] = false) : RE Z W P X (.Compare a [op, op'] [b, c] pos) (.chain o o' A B C) :=
  PE.imp (pe_chain ho ho' ha hb hc hm) fun σ H Q ⟨φ, ρ, M, a, q⟩ => by
    rw [ev] at q
    refine (tE.bind a q).mono fun x H1 ⟨φ1, M1, d, a1, s1, i, q1⟩ => (tE.bind a1 q1).mono fun y H2 ⟨φ2, M2, e, a2, s2, j, q2⟩ => ⟨φ2, M2, d, e, W, σ, a2.m, s2.is i, j, ?_⟩
    cases h : ev2 o d e M2 with
    | none => rw [h] at q2; exact q2.elim
    | some z =>
      obtain ⟨k, rfl⟩ := boolO_is hb2 h
      rw [h] at q2
      refine fun φ' v H' s' i' => ⟨k, by rw [Is] at i'; exact i', ?_⟩
      have q3 := post.rebase s' q2
      cases k with
      | true =>
        refine (tE.bind (s'.at_ a2) q3).mono fun w' H4 ⟨φ4, M4, f, a4, s4, l, q4⟩ => ?_
        exact ⟨φ4, M4, e, f, W, σ, a4.m, s4.is (s'.is j), l, q4⟩
      | false => exact q3.bl s'.m
/-! ### displays -/
theorem ra_nil : RA Z W P X [] .nil := PA.imp pa_nil fun σ H Q ⟨φ, ρ, M, a, q⟩ => by
  rw [evs] at q
  exact q.fin a.m Iss.nil
theorem ra_cons {es : List Expr} {A : Es} {B : E} (ha : RE Z W P X e B) (hr : RA Z W P X es A) (hs : starEach (e :: es) X.env = (false, eval e X.env) :: starEach es X.env) : RA Z W P X (e :: es) (.cons B A) :=
  PA.imp (pa_cons ha hr hs) fun σ H Q ⟨φ, ρ, M, a, q⟩ => by
    rw [evs] at q
    refine (tE.bind a q).mono fun x H1 ⟨φ1, M1, d, a1, s1, i, q1⟩ => (tL.bind a1 q1).mono fun xs H2 ⟨φ2, M2, ds, a2, s2, j, q2⟩ => ?_
    exact q2.fin a2.m (Iss.cons (s2.is i) j)
theorem r_tup {es : List Expr} {A : Es} {k : Nat} (h : RA Z W P X es A) : RE Z W P X (.Tuple es k pos) (.tup false A) :=
  PE.imp (pe_tupF h) fun σ H Q ⟨φ, ρ, M, a, q⟩ => by
    rw [ev] at q
    refine (tL.bind a q).mono fun xs H2 ⟨φ2, M2, ds, a2, s2, j, q2⟩ => ?_
    split at q2
    · rename_i hl
      exact ⟨by rw [← j.length, ← line_eq]; exact hl, post.newT' q2 a2.m j⟩
    · exact q2.elim
theorem r_key {es : List Expr} {A : Es} {k : Nat} (h : RA Z W P X es A) : RE Z W P X (.Tuple es k pos) (.tup true A) :=
  PE.imp (pe_tup h) fun σ H Q ⟨φ, ρ, M, a, q⟩ => by
    rw [ev] at q
    refine (tL.bind a q).mono fun xs H2 ⟨φ2, M2, ds, a2, s2, j, q2⟩ => ?_
    split at q2
    · rename_i hl
      exact ⟨by rw [← j.length, ← line_eq]; exact hl, q2.newK a2.m j⟩
    · exact q2.elim
theorem r_lst {es : List Expr} {A : Es} (h : RA Z W P X es A) : RE Z W P X (.List es pos) (.lst A) :=
  PE.imp (pe_lst h) fun σ H Q ⟨φ, ρ, M, a, q⟩ => by
    rw [ev] at q
    refine (tL.bind a q).mono fun xs H2 ⟨φ2, M2, ds, a2, s2, j, q2⟩ => ?_
    split at q2
    · rename_i hl
      exact ⟨by rw [← j.length, ← line_eq]; exact hl, q2.newL a2.m j⟩
    · exact q2.elim
end
end DL
end
section
set_option Elab.async false
set_option linter.all false
set_option maxRecDepth 100000
set_option autoImplicit false
set_option maxHeartbeats 4000000
/-! DL12: new and changed objects of the store; calls of built-ins. -/
namespace DL
open PySem PySem.Spec PyProof.Rows L2 LamX

section
variable {Z : Fix} {φ : Ph} {G G' H H' : Hp} {M : Store}
theorem kis_mono {ν : List Addr} (e : ExtN G G') : ∀ {kvs : List (D × D)} {ws : List (Key × V)}, KIs Z φ G kvs ws → KIs Z (φ.add ν) G' kvs ws
  | [], _, h => h
  | (k, d) :: r, _, h => by
    obtain ⟨kk, v, ws', h1, h2, h3, h4, h5⟩ := h
    exact ⟨kk, v, ws', h1, h2, h3, Is.mono e d v h4, kis_mono e h5⟩
theorem tis_mono {ν : List Addr} (e : ExtN G G') : ∀ {kvs : List (D × D)} {ws : List (List Key × V)}, TIs Z φ G kvs ws → TIs Z (φ.add ν) G' kvs ws
  | [], _, h => h
  | (k, d) :: r, _, h => by
    obtain ⟨ks, kk, v, ws', h1, h2, h3, h4, h5, h6⟩ := h
    exact ⟨ks, kk, v, ws', h1, h2, h3, h4, Is.mono e d v h5, tis_mono e h6⟩
theorem fis_mono {ν : List Addr} (e : ExtN G G') : ∀ {kvs : List (Nat × D)} {ws : List (Str × V)}, FIs Z φ G kvs ws → FIs Z (φ.add ν) G' kvs ws
  | [], _, h => h
  | (k, d) :: r, _, h => by
    obtain ⟨v, ws', h1, h2, h3⟩ := h
    exact ⟨v, ws', h1, Is.mono e d v h2, fis_mono e h3⟩
theorem IsO.mono {ν : List Addr} (e : ExtN G G') {o : MO} {ho : HO} (h : IsO Z φ G o ho) : IsO Z (φ.add ν) G' o ho := by
  cases o with
  | lst ds =>
    obtain ⟨vs, e1, e2⟩ := h
    exact ⟨vs, e1, Iss.mono e _ _ e2⟩
  | dict tk kvs =>
    cases tk with
    | false =>
      obtain ⟨ws, e1, e2⟩ := h
      exact ⟨ws, e1, kis_mono e e2⟩
    | true =>
      obtain ⟨ws, e1, e2⟩ := h
      exact ⟨ws, e1, tis_mono e e2⟩
  | ins c fs =>
    obtain ⟨dx, ws, e1, e2⟩ := h
    exact ⟨dx, ws, e1, fis_mono e e2⟩
theorem alloc_ext {p : Addr} {ho : HO} (hp : H p = none) : ∀ b u, out φ H b = some u → out (φ.add [p]) (upd H p ho) b = some u := fun b u e => by
  obtain ⟨h1, h2⟩ := out_some e
  have ne := ne_of_none h2 hp
  refine out_of (fun z => ?_) (by rw [upd_ne ne]; exact h2)
  rcases List.mem_append.mp z with z | z
  · exact h1 (List.mem_append_left _ z)
  · rcases List.mem_append.mp z with z | z
    · exact h1 (List.mem_append_right _ z)
    · exact ne (List.mem_singleton.mp z)
/-- a new object of the store -/
theorem step_alloc (m : RepM Z φ M H) {p : Addr} {ho : HO} {o : MO} (hp : H p = none) (i : IsO Z φ (out φ H) o ho) : Step Z φ H (φ.add [p]) (upd H p ho) (M ++ [o]) := by
  have ext' := alloc_ext (φ := φ) (H := H) (ho := ho) hp
  have ext : ExtN (out φ H) (out (φ.add [p]) (upd H p ho)) := fun b u e _ => ext' b u e
  have np : p ∉ φ.all := m.fresh hp
  refine ⟨⟨[p], rfl⟩, ext, fun a ha => upd_ne fun e => np (List.mem_append_left _ (e ▸ ha)), ?_, ?_, fun a ha => ?_, fun n u e => ?_, m.tab.ext ext'⟩
  · show (φ.s ++ [p]).length = _
    rw [List.length_append, List.length_append, m.len]
    rfl
  · show (φ.h ++ (φ.s ++ [p])).Nodup
    rw [← List.append_assoc]
    exact List.nodup_append.mpr ⟨m.nd, by simp, fun a ha b hb => by
      rw [List.mem_singleton.mp hb]
      exact fun e => np (e ▸ ha)⟩
  · obtain ⟨u, e, nt⟩ := m.hid a ha
    exact ⟨u, by rw [upd_ne (ne_of_none e hp)]; exact e, nt⟩
  · by_cases h : n < M.length
    · rw [List.getElem?_append_left h] at e
      obtain ⟨a, h2, e1, e2, e3⟩ := m.at_ n u e
      refine ⟨a, h2, ?_, by rw [upd_ne (ne_of_none e2 hp)]; exact e2, IsO.mono ext e3⟩
      show (φ.s ++ [p])[n]? = _
      rw [List.getElem?_append_left (by rw [m.len]; exact h)]
      exact e1
    · rw [List.getElem?_append_right (by omega)] at e
      have : n - M.length = 0 := by
        have := (List.getElem?_eq_some_iff.mp e).1
        simp at this
        omega
      rw [this] at e
      cases e
      refine ⟨p, ho, ?_, upd_same, IsO.mono ext i⟩
      show (φ.s ++ [p])[n]? = _
      rw [List.getElem?_append_right (by rw [m.len]; omega), m.len, this]
      rfl
theorem out_set {a : Addr} {ho : HO} (h : a ∈ φ.all) : out φ (upd H a ho) = out φ H := by
  funext b
  unfold out
  by_cases hb : b ∈ φ.all
  · rw [if_pos hb, if_pos hb]
  · rw [if_neg hb, if_neg hb, upd_ne fun e => hb (by rw [e]; exact h)]
/-- a changed object of the store -/
theorem step_set (m : RepM Z φ M H) {n : Nat} {a : Addr} {ho : HO} {o : MO} (ha : φ.s[n]? = some a) (i : IsO Z φ (out φ H) o ho) : Step Z φ H φ (upd H a ho) (M.set n o) := by
  have hm : a ∈ φ.s := List.mem_of_getElem? ha
  have ho' := out_set (φ := φ) (H := H) (ho := ho) (List.mem_append_right φ.h hm)
  have dj : ∀ x ∈ φ.h, x ≠ a := fun x hx e => by
    have := (List.nodup_append.mp m.nd).2.2 x hx a hm
    exact this e
  have nd : φ.s.Nodup := (List.nodup_append.mp m.nd).2.1
  refine ⟨⟨[], by simp [Ph.add]⟩, by rw [ho']; exact ExtN.refl _, fun x hx => upd_ne (dj x hx), ?_, m.nd, fun x hx => ?_, fun k u e => ?_, by rw [ho']; exact m.tab⟩
  · rw [List.length_set]
    exact m.len
  · obtain ⟨u, e, nt⟩ := m.hid x hx
    exact ⟨u, by rw [upd_ne (dj x hx)]; exact e, nt⟩
  · rw [ho']
    by_cases h : n = k
    · subst h
      have hn : n < M.length := by
        have := (List.getElem?_eq_some_iff.mp e).1
        rw [List.length_set] at this
        exact this
      rw [List.getElem?_set_self hn] at e
      cases e
      exact ⟨a, ho, ha, upd_same, i⟩
    · rw [List.getElem?_set_ne h] at e
      obtain ⟨b, hb, e1, e2, e3⟩ := m.at_ k u e
      refine ⟨b, hb, e1, ?_, e3⟩
      rw [upd_ne fun z => h ?_]
      · exact e2
      · subst z
        obtain ⟨h1, h2⟩ := List.getElem?_eq_some_iff.mp ha
        obtain ⟨h3, h4⟩ := List.getElem?_eq_some_iff.mp e1
        exact (List.getElem_inj nd).mp (h2.trans h4.symm)
end
section
variable {Z : Fix} {W : WX} {P : Fns} {X : Cx} {φ : Ph} {H : Hp} {M : Store} {σ : L2.St} {a b c e : Expr} {A B C : E} {pos p p2 p3 : Pos} {x : Str}
/-! ### new lists of the store -/
theorem post.newO {o : MO} {ho : HO} {Q : VK} (h : post Z (Is Z) W σ φ H (.ok (.ref M.length) (M ++ [o])) Q) (m : RepM Z φ M H) (i : IsO Z φ (out φ H) o ho) : ∀ p, H p = none → Q (.ref p) (upd H p ho) := fun p hp => by
  refine h _ _ _ (step_alloc m hp i) ?_
  rw [Is]
  refine ⟨p, rfl, ?_⟩
  show (φ.s ++ [p])[M.length]? = _
  rw [← m.len, List.getElem?_append_right (Nat.le_refl _), Nat.sub_self]
  rfl
theorem r_newl {es : List Expr} {A : Es} (h : RA Z W P X es A) : RE Z W P X (.List es pos) (.newl A) :=
  PE.imp (pe_lst h) fun σ H Q ⟨φ, ρ, M, a, q⟩ => by
    rw [ev] at q
    refine (tL.bind a q).mono fun xs H2 ⟨φ2, M2, ds, a2, s2, j, q2⟩ => ?_
    split at q2
    · rename_i hl
      exact ⟨by rw [← j.length, ← line_eq]; exact hl, q2.newO a2.m ⟨xs, rfl, j⟩⟩
    · exact q2.elim
/-! ### *e in an argument list, in a display -/
theorem ra_star {es : List Expr} {A : Es} {B : E} (g : Gd Z X) (ha : RE Z W P X e B) (hr : RA Z W P X es A) (hs : starEach (.Starred e p :: es) X.env = (true, eval e X.env) :: starEach es X.env) : RA Z W P X (.Starred e p :: es) (.star B A) :=
  PA.imp (StX.pa_star ha hr hs) fun σ H Q ⟨φ, ρ, M, a, q⟩ => by
    rw [evs] at q
    refine (tE.bind a q).mono fun x H1 ⟨φ1, M1, d, a1, s1, i, q1⟩ => ?_
    cases h : itemsOf M1 d with
    | none => rw [h] at q1; exact q1.elim
    | some xs =>
      rw [h] at q1
      simp only at q1
      have e : rk M1 d = .lst xs ∨ rk M1 d = .tup xs := by
        unfold itemsOf at h
        split at h
        · rename_i e; cases h; exact .inr e
        · rename_i e; cases h; exact .inl e
        · cases h
      have fin : ∀ (vs : List V), Iss Z φ1 (out φ1 H1) xs vs → tL Z W (evs P A) σ H1 fun ys H2 => Q (vs ++ ys) H2 := fun vs j =>
        (tL.bind a1 q1).mono fun ys H2 ⟨φ2, M2, ds, a2, s2, j2, q2⟩ => q2.fin a2.m ((s2.iss j).app j2)
      rcases e with e | e
      · obtain ⟨p, vs, rfl, h1, h2⟩ := rv_lstK a1.m i e
        exact ⟨p, vs, rfl, .inr (SqL.of h1), fin vs h2⟩
      · obtain ⟨p, vs, rfl, h1, h2⟩ := rv_tupK a1.m i e
        exact ⟨p, vs, rfl, .inl (by rw [g.hK]; exact sqT_out h1), fin vs h2⟩
/-! ### f(e), f a built-in -/
theorem tO1c {o : O1} {Q : VK} (h : tE Z W (ev P (.o1 o A)) σ H Q) : tCB (rC1 Z o) (tCons (tE Z W (ev P A)) tNil) σ H Q := by
  rw [ev_o1] at h
  exact (tE.o1 h).mono fun x H1 q => ⟨x, rfl, q⟩
theorem r_b1 {id : String} {o : O1} (hc : CallR X (.builtin id) (rC1 Z o)) (hg : Gl X x) (hm : X.mg x = none) (hv : bootBuiltins x = some (.builtin id)) (ha : RE Z W P X a A) (hn : x ≠ "__name__") (hdb : (x == ("__debug__" : Str)) = false)
    (h1 : starEach [a] X.env = (false, eval a X.env) :: starEach [] X.env) : RE Z W P X (.Call (.Name x p) [a] [] pos) (.o1 o A) :=
  PE.imp (pe_callB hc hg hm hv (pa_cons ha pa_nil h1) hn hdb h1 rfl) fun σ H Q h => tO1c h
theorem r_t1 {T : String} {o : O1} (hc : CallR X (.type T) (rC1 Z o)) (hg : Gl X x) (hm : X.mg x = none) (hv : bootBuiltins x = some (.type T)) (ha : RE Z W P X a A) (hn : x ≠ "__name__") (hdb : (x == ("__debug__" : Str)) = false)
    (h1 : starEach [a] X.env = (false, eval a X.env) :: starEach [] X.env) : RE Z W P X (.Call (.Name x p) [a] [] pos) (.o1 o A) :=
  PE.imp (pe_callTy hc hg hm hv (pa_cons ha pa_nil h1) hn hdb h1 rfl) fun σ H Q h => tO1c h
theorem r_isT {n : String} {y : Str} (g : Gd Z X) (hn : n ∈ tyNames.tail) (hg : Gl X "isinstance") (hm : X.mg "isinstance" = none) (hg2 : Gl X y) (hm2 : X.mg y = none) (hv2 : bootBuiltins y = some (.type n)) (hn2 : y ≠ "__name__") (hd2 : (y == ("__debug__" : Str)) = false)
    (ha : RE Z W P X a A) (h1 : starEach [a, .Name y p2] X.env = (false, eval a X.env) :: starEach [.Name y p2] X.env) : RE Z W P X (.Call (.Name "isinstance" p) [a, .Name y p2] [] pos) (.o1 (.isT n) A) :=
  PE.imp (pe_callB (c1_isT g.hK hn) hg hm (by rfl) (pa_cons ha (pa_cons (pe_bltn (v := .ty n) hg2 hm2 hv2 rfl hn2 hd2) pa_nil) h1) (he := h1)) fun σ H Q h => by
    rw [ev_o1] at h
    exact (tE.o1 h).mono fun x H1 q => ⟨x, rfl, q⟩
theorem r_sortedSet {q : Pos} (g : Gd Z X) (hg : Gl X "sorted") (hm : X.mg "sorted" = none) (hg2 : Gl X "set") (hm2 : X.mg "set" = none) (ha : RE Z W P X a A)
    (h1 : starEach [a] X.env = (false, eval a X.env) :: starEach [] X.env) : RE Z W P X (.Call (.Name "sorted" p) [.Call (.Name "set" p2) [a] [] q] [] pos) (.o1 .sortedSet A) :=
  PE.imp (pe_sortedSet g.hK g.calm hg hm hg2 hm2 ha h1) fun σ H Q h => by
    rw [ev_o1] at h
    exact h
theorem r_lenSet {q : Pos} (g : Gd Z X) (hg : Gl X "len") (hm : X.mg "len" = none) (hg2 : Gl X "set") (hm2 : X.mg "set" = none) (ha : RE Z W P X a A)
    (h1 : starEach [a] X.env = (false, eval a X.env) :: starEach [] X.env) : RE Z W P X (.Call (.Name "len" p) [.Call (.Name "set" p2) [a] [] q] [] pos) (.o1 .lenSet A) :=
  PE.imp (pe_lenSetS g.hK g.calm hg hm hg2 hm2 ha h1) fun σ H Q h => by
    rw [ev_o1] at h
    exact h
end
end DL
end
section
set_option Elab.async false
set_option linter.all false
set_option maxRecDepth 100000
set_option autoImplicit false
set_option maxHeartbeats 4000000
/-! DL13: an object that is being made stands hidden. -/
namespace DL
open PySem PySem.Spec PyProof.Rows L2 LamX

section
variable {Z : Fix} {φ ψ φ' φ1 : Ph} {G G' H H' H1 : Hp} {M M' M1 : Store} {p : Addr} {ho ho2 : HO}
mutual
theorem Is.hs (e : ψ.s = φ.s) : ∀ (d : D) (v : V), Is Z φ G d v → Is Z ψ G d v
  | .non, v, h => by simpa only [Is] using h
  | .bl b, v, h => by simpa only [Is] using h
  | .int i, v, h => by simpa only [Is] using h
  | .str x, v, h => by simpa only [Is] using h
  | .fn i, v, h => by simpa only [Is] using h
  | .ty n, v, h => by simpa only [Is] using h
  | .ref n, v, h => by simpa only [Is, e] using h
  | .tup ds, v, h => by
    simp only [Is] at h ⊢
    obtain ⟨a, vs, h1, h2, h3⟩ := h
    exact ⟨a, vs, h1, h2, Iss.hs e ds vs h3⟩
  | .lst ds, v, h => by
    simp only [Is] at h ⊢
    obtain ⟨a, vs, h1, h2, h3⟩ := h
    exact ⟨a, vs, h1, h2, Iss.hs e ds vs h3⟩
  | .scr ns, v, h => by simpa only [Is] using h
  | .key ds, v, h => by
    simp only [Is] at h ⊢
    obtain ⟨a, vs, h1, h2, h3⟩ := h
    exact ⟨a, vs, h1, h2, Iss.hs e ds vs h3⟩
  | .exc c ds, v, h => by
    simp only [Is] at h ⊢
    obtain ⟨a, d, vs, h1, h2, h3, h4, h5⟩ := h
    exact ⟨a, d, vs, h1, h2, h3, h4, Iss.hs e ds vs h5⟩
theorem Iss.hs (e : ψ.s = φ.s) : ∀ (ds : List D) (vs : List V), Iss Z φ G ds vs → Iss Z ψ G ds vs
  | [], vs, h => by simpa only [Iss] using h
  | d :: ds, vs, h => by
    simp only [Iss] at h ⊢
    obtain ⟨v, r, h1, h2, h3⟩ := h
    exact ⟨v, r, h1, Is.hs e d v h2, Iss.hs e ds r h3⟩
end
theorem kis_hs (e : ψ.s = φ.s) : ∀ {kvs : List (D × D)} {ws : List (Key × V)}, KIs Z φ G kvs ws → KIs Z ψ G kvs ws
  | [], _, h => h
  | (k, d) :: r, _, h => by
    obtain ⟨kk, v, ws', h1, h2, h3, h4, h5⟩ := h
    exact ⟨kk, v, ws', h1, h2, h3, Is.hs e d v h4, kis_hs e h5⟩
theorem tis_hs (e : ψ.s = φ.s) : ∀ {kvs : List (D × D)} {ws : List (List Key × V)}, TIs Z φ G kvs ws → TIs Z ψ G kvs ws
  | [], _, h => h
  | (k, d) :: r, _, h => by
    obtain ⟨ks, kk, v, ws', h1, h2, h3, h4, h5, h6⟩ := h
    exact ⟨ks, kk, v, ws', h1, h2, h3, h4, Is.hs e d v h5, tis_hs e h6⟩
theorem fis_hs (e : ψ.s = φ.s) : ∀ {kvs : List (Nat × D)} {ws : List (Str × V)}, FIs Z φ G kvs ws → FIs Z ψ G kvs ws
  | [], _, h => h
  | (k, d) :: r, _, h => by
    obtain ⟨v, ws', h1, h2, h3⟩ := h
    exact ⟨v, ws', h1, Is.hs e d v h2, fis_hs e h3⟩
theorem IsO.hs (e : ψ.s = φ.s) {o : MO} (h : IsO Z φ G o ho) : IsO Z ψ G o ho := by
  cases o with
  | lst ds =>
    obtain ⟨vs, e1, e2⟩ := h
    exact ⟨vs, e1, Iss.hs e _ _ e2⟩
  | dict tk kvs =>
    cases tk with
    | false =>
      obtain ⟨ws, e1, e2⟩ := h
      exact ⟨ws, e1, kis_hs e e2⟩
    | true =>
      obtain ⟨ws, e1, e2⟩ := h
      exact ⟨ws, e1, tis_hs e e2⟩
  | ins c fs =>
    obtain ⟨dx, ws, e1, e2⟩ := h
    exact ⟨dx, ws, e1, fis_hs e e2⟩
def Ph.hide (φ : Ph) (p : Addr) : Ph := ⟨φ.s, p :: φ.h⟩
theorem mem_hide {b : Addr} : b ∈ (φ.hide p).all ↔ b = p ∨ b ∈ φ.all := by
  show b ∈ (p :: φ.h) ++ φ.s ↔ b = p ∨ b ∈ φ.h ++ φ.s
  rw [List.cons_append, List.mem_cons]
/-- hidden, its contents do not matter -/
theorem out_hide (hp : H p = none) : out (φ.hide p) (upd H p ho) = out φ H := by
  funext b
  unfold out
  by_cases hb : b = p
  · subst hb
    rw [if_pos (mem_hide.mpr (.inl rfl))]
    split
    · rfl
    · exact hp.symm
  · by_cases hc : b ∈ φ.all
    · rw [if_pos (mem_hide.mpr (.inr hc)), if_pos hc]
    · rw [if_neg fun z => (mem_hide.mp z).elim hb hc, if_neg hc, upd_ne hb]
/-- seen again -/
theorem out_seen (hp : p ∉ φ.all) : ∀ b u, out (φ.hide p) H b = some u → out φ (upd H p ho) b = some u := fun b u e => by
  obtain ⟨h1, h2⟩ := out_some e
  exact out_of (fun z => h1 (mem_hide.mpr (.inr z))) (by rw [upd_ne fun z => h1 (mem_hide.mpr (.inl z))]; exact h2)
theorem RepM.hide (m : RepM Z φ M H) (hp : H p = none) (nt : NTb ho := by trivial) : RepM Z (φ.hide p) M (upd H p ho) := by
  have np : p ∉ φ.all := m.fresh hp
  refine ⟨m.len, ?_, fun a ha => ?_, fun n u e => ?_, by rw [out_hide hp]; exact m.tab⟩
  · show (p :: φ.h ++ φ.s).Nodup
    rw [List.cons_append]
    exact List.nodup_cons.mpr ⟨np, m.nd⟩
  · rcases List.mem_cons.mp (show a ∈ p :: φ.h from ha) with z | z
    · exact ⟨ho, by rw [z]; exact upd_same, nt⟩
    · obtain ⟨u, e, nt⟩ := m.hid a z
      exact ⟨u, by rw [upd_ne (ne_of_none e hp)]; exact e, nt⟩
  · obtain ⟨a, h2, e1, e2, e3⟩ := m.at_ n u e
    exact ⟨a, h2, e1, by rw [upd_ne (ne_of_none e2 hp)]; exact e2, by rw [out_hide hp]; exact IsO.hs (φ := φ) (ψ := φ.hide p) rfl e3⟩
theorem At.hide {ρ : Env} {σ : L2.St} (a : At Z φ ρ M σ H) (hp : H p = none) (nt : NTb ho := by trivial) : At Z (φ.hide p) ρ M σ (upd H p ho) :=
  ⟨a.m.hide hp nt, a.e.1, fun i d e => let ⟨v, h1, h2⟩ := a.e.2 i d e; ⟨v, h1, by rw [out_hide hp]; exact Is.hs (φ := φ) (ψ := φ.hide p) rfl d v h2⟩⟩
theorem hide_nd (m : RepM Z (φ.hide p) M H) : p ∉ φ.all ∧ φ.all.Nodup := by
  have := m.nd
  have e : (φ.hide p).all = p :: φ.all := by show (p :: φ.h) ++ φ.s = p :: (φ.h ++ φ.s); rw [List.cons_append]
  rw [e] at this
  exact List.nodup_cons.mp this
theorem seen_ext (np : p ∉ φ.all) : ExtN (out (φ.hide p) H) (out φ (upd H p ho)) := fun b u e _ => out_seen np b u e
theorem RepM.seen (m : RepM Z (φ.hide p) M H) : RepM Z φ M (upd H p ho) := by
  obtain ⟨np, nd⟩ := hide_nd m
  refine ⟨m.len, nd, fun a ha => ?_, fun n u e => ?_, m.tab.ext (out_seen np)⟩
  · obtain ⟨u, e, nt⟩ := m.hid a (List.mem_cons_of_mem _ ha)
    exact ⟨u, by rw [upd_ne fun z => np (by rw [← z]; exact List.mem_append_left _ ha)]; exact e, nt⟩
  · obtain ⟨a, h2, e1, e2, e3⟩ := m.at_ n u e
    refine ⟨a, h2, e1, ?_, ?_⟩
    · rw [upd_ne fun z => np (by rw [← z]; exact List.mem_append_right _ (List.mem_of_getElem? e1))]
      exact e2
    · have := IsO.mono (Z := Z) (ν := []) (seen_ext (H := H) (ho := ho) np) e3
      exact IsO.hs (φ := (φ.hide p).add []) (by simp [Ph.add, Ph.hide]) this
/-- one more step while p stands hidden; s1: all before it, seen -/
theorem Step.over (hp : H1 p = none) (s1 : Step Z φ1 H1 φ (upd H p ho) M) (hh : φ.h = φ1.h) (s2 : Step Z (φ.hide p) H φ' H' M') : Step Z φ1 H1 ⟨φ'.s, φ1.h⟩ (upd H' p ho2) M' ∧ φ' = Ph.hide ⟨φ'.s, φ1.h⟩ p := by
  obtain ⟨ν1, e1⟩ := s1.pre
  obtain ⟨ν2, e2⟩ := s2.pre
  have ee : φ' = Ph.hide ⟨φ'.s, φ1.h⟩ p := by
    rw [e2]
    show Ph.mk _ (p :: φ.h) = Ph.mk _ (p :: φ1.h)
    rw [hh]
    rfl
  have m : RepM Z (Ph.hide ⟨φ'.s, φ1.h⟩ p) M' H' := by rw [← ee]; exact s2.m
  obtain ⟨np, nd⟩ := hide_nd m
  refine ⟨⟨⟨ν1 ++ ν2, ?_⟩, fun b u e t => ?_, fun a ha => ?_, m.seen⟩, ee⟩
  · show Ph.mk φ'.s φ1.h = Ph.mk (φ1.s ++ (ν1 ++ ν2)) φ1.h
    rw [e2]
    show Ph.mk (φ.s ++ ν2) _ = _
    rw [e1]
    show Ph.mk ((φ1.s ++ ν1) ++ ν2) _ = _
    rw [List.append_assoc]
  · have h0 := (out_some e).2
    have hb : b ≠ p := ne_of_none h0 hp
    have h1 := s1.ext b u e t
    have h2 : out (φ.hide p) H b = some u := by
      obtain ⟨k1, k2⟩ := out_some h1
      rw [upd_ne hb] at k2
      exact out_of (fun z => (mem_hide.mp z).elim hb k1) k2
    have h3 := s2.ext b u h2 t
    rw [ee] at h3
    exact out_seen np b u h3
  · have hap : a ≠ p := fun z => np (by rw [← z]; exact List.mem_append_left _ ha)
    rw [upd_ne hap, s2.hid a (List.mem_cons_of_mem _ (by rw [hh]; exact ha))]
    have := s1.hid a ha
    rw [upd_ne hap] at this
    exact this
/-- p is a new object of the store -/
theorem Step.stored (s : Step Z φ1 H1 φ (upd H p ho) M) (hp : H1 p = none) (m : RepM Z (φ.hide p) M H) {o : MO} {ho' : HO} (i : IsO Z φ (out (φ.hide p) H) o ho') : Step Z φ1 H1 (φ.add [p]) (upd H p ho') (M ++ [o]) := by
  obtain ⟨np, nd⟩ := hide_nd m
  obtain ⟨ν1, e1⟩ := s.pre
  have ne : ∀ a ∈ φ.all, a ≠ p := fun a ha z => np (z ▸ ha)
  have ext' : ∀ b u, out (φ.hide p) H b = some u → out (φ.add [p]) (upd H p ho') b = some u := fun b u e => by
    obtain ⟨h1, h2⟩ := out_some e
    have hb : b ≠ p := fun z => h1 (mem_hide.mpr (.inl z))
    refine out_of (fun z => ?_) (by rw [upd_ne hb]; exact h2)
    rcases List.mem_append.mp z with z | z
    · exact h1 (mem_hide.mpr (.inr (List.mem_append_left _ z)))
    · rcases List.mem_append.mp z with z | z
      · exact h1 (mem_hide.mpr (.inr (List.mem_append_right _ z)))
      · exact hb (List.mem_singleton.mp z)
  have ext : ExtN (out (φ.hide p) H) (out (φ.add [p]) (upd H p ho')) := fun b u e _ => ext' b u e
  have lift : ∀ {o : MO} {u : HO}, IsO Z φ (out (φ.hide p) H) o u → IsO Z (φ.add [p]) (out (φ.add [p]) (upd H p ho')) o u := fun h => IsO.mono ext h
  refine ⟨⟨ν1 ++ [p], by rw [e1]; simp [Ph.add]⟩, fun b u e t => ?_, fun a ha => ?_, ?_, ?_, fun a ha => ?_, fun n u e => ?_, m.tab.ext ext'⟩
  · have hb : b ≠ p := ne_of_none (out_some e).2 hp
    obtain ⟨k1, k2⟩ := out_some (s.ext b u e t)
    rw [upd_ne hb] at k2
    exact ext' b u (out_of (fun z => (mem_hide.mp z).elim hb k1) k2)
  · have hap : a ≠ p := ne a (by rw [e1]; exact List.mem_append_left _ ha)
    have := s.hid a ha
    rw [upd_ne hap] at this
    rw [upd_ne hap]
    exact this
  · show (φ.s ++ [p]).length = _
    have := m.len
    rw [List.length_append, List.length_append, show φ.s.length = M.length from this]
    rfl
  · show (φ.h ++ (φ.s ++ [p])).Nodup
    rw [← List.append_assoc]
    exact List.nodup_append.mpr ⟨nd, by simp, fun a ha b hb => by
      rw [List.mem_singleton.mp hb]
      exact ne a ha⟩
  · obtain ⟨u, e, nt⟩ := m.hid a (List.mem_cons_of_mem _ ha)
    exact ⟨u, by rw [upd_ne (ne a (List.mem_append_left _ ha))]; exact e, nt⟩
  · have hl : φ.s.length = M.length := m.len
    by_cases h : n < M.length
    · rw [List.getElem?_append_left h] at e
      obtain ⟨a, h2, e1, e2, e3⟩ := m.at_ n u e
      have e1 : φ.s[n]? = some a := e1
      refine ⟨a, h2, ?_, ?_, lift (IsO.hs (φ := φ.hide p) (ψ := φ) rfl e3)⟩
      · show (φ.s ++ [p])[n]? = _
        rw [List.getElem?_append_left (by rw [hl]; exact h)]
        exact e1
      · rw [upd_ne (ne a (List.mem_append_right _ (List.mem_of_getElem? e1)))]
        exact e2
    · rw [List.getElem?_append_right (by omega)] at e
      have : n - M.length = 0 := by
        have := (List.getElem?_eq_some_iff.mp e).1
        simp at this
        omega
      rw [this] at e
      cases e
      refine ⟨p, ho', ?_, upd_same, lift i⟩
      show (φ.s ++ [p])[n]? = _
      rw [List.getElem?_append_right (by rw [hl]; omega), hl, this]
      rfl
end
end DL
end
section
set_option Elab.async false
set_option linter.all false
set_option maxRecDepth 100000
set_option autoImplicit false
set_option maxHeartbeats 4000000
/-! DL14: targets, what is walked, for loops. -/
namespace DL
open PySem PySem.Spec PyProof.Rows L2 LamX

mutual
/-- the slots of a target -/
def T.slots : T → List Nat
  | .nm i => [i]
  | .tp ts => Ts.slots ts
def Ts.slots : Ts → List Nat
  | .nil => []
  | .cons t r => T.slots t ++ Ts.slots r
end
section
variable {Z : Fix} {W : WX} {P : Fns} {X : Cx} {φ ψ φ' φ0 φ1 : Ph} {H H' H0 H1 : Hp} {M M' : Store} {σ : L2.St} {ρ : Env} {e a b : Expr} {A B : E} {pos p : Pos} {x : Str}
theorem repE_set {G : Hp} {i : Nat} {d : D} {v : V} (h : RepE Z φ G ρ σ) (k : Is Z φ G d v) : RepE Z φ G (ρ.set i (some d)) (σ.set i (some v)) := by
  refine ⟨by rw [List.length_set, List.length_set]; exact h.1, fun j d' e => ?_⟩
  by_cases hj : i = j
  · subst hj
    have hl : i < ρ.length := by
      have := (List.getElem?_eq_some_iff.mp e).1
      rw [List.length_set] at this
      exact this
    rw [List.getElem?_set_self hl] at e
    cases e
    exact ⟨v, List.getElem?_set_self (by rw [← h.1]; exact hl), k⟩
  · rw [List.getElem?_set_ne hj] at e
    obtain ⟨w, h1, h2⟩ := h.2 j d' e
    exact ⟨w, by rw [List.getElem?_set_ne hj]; exact h1, h2⟩
theorem repE_none {G : Hp} {i : Nat} (h : RepE Z φ G ρ σ) {v : Option V} : RepE Z φ G (ρ.set i none) (σ.set i v) := by
  refine ⟨by rw [List.length_set, List.length_set]; exact h.1, fun j d' e => ?_⟩
  by_cases hj : i = j
  · subst hj
    have hl : i < ρ.length := by
      have := (List.getElem?_eq_some_iff.mp e).1
      rw [List.length_set] at this
      exact this
    rw [List.getElem?_set_self hl] at e
    cases e
  · rw [List.getElem?_set_ne hj] at e
    obtain ⟨w, h1, h2⟩ := h.2 j d' e
    exact ⟨w, by rw [List.getElem?_set_ne hj]; exact h1, h2⟩
theorem wipe_set {i : Nat} {v : Option V} : ∀ {vs : List Nat} {σ : L2.St}, i ∈ vs → wipe (σ.set i v) vs = wipe σ vs
  | [], _, h => by cases h
  | j :: vs, σ, h => by
    unfold wipe
    by_cases hj : i = j
    · subst hj
      by_cases hm : i ∈ vs
      · rw [wipe_set hm]
      · have : ∀ (vs : List Nat) (σ : L2.St), i ∉ vs → wipe (σ.set i v) vs = (wipe σ vs).set i v := by
          intro vs
          induction vs with
          | nil => exact fun _ _ => rfl
          | cons k r ih =>
            intro σ hk
            unfold wipe
            rw [ih σ fun z => hk (List.mem_cons_of_mem _ z), List.set_comm]
            exact fun z => hk (z ▸ List.mem_cons_self)
        rw [this vs σ hm, List.set_set]
    · rcases List.mem_cons.mp h with z | z
      · exact absurd z hj
      · rw [wipe_set z]
/-! ### targets -/
/-- a target stores as the evaluator says -/
def tG (Z : Fix) (t : T) : TG := fun v σ H K => ∃ φ ρ M d ρ', At Z φ ρ M σ H ∧ Is Z φ (out φ H) d v ∧ T.put t d ρ = some ρ' ∧
  ∀ σ', At Z φ ρ' M σ' H → (∀ vs : List Nat, (∀ i ∈ t.slots, i ∈ vs) → wipe σ' vs = wipe σ vs) → K σ' H
def tGs (Z : Fix) (t : Ts) : TGs := fun v σ H K => ∃ φ ρ M d ρ', At Z φ ρ M σ H ∧ Iss Z φ (out φ H) d v ∧ Ts.put t d ρ = some ρ' ∧
  ∀ σ', At Z φ ρ' M σ' H → (∀ vs : List Nat, (∀ i ∈ t.slots, i ∈ vs) → wipe σ' vs = wipe σ vs) → K σ' H
abbrev RG (Z : Fix) (X : Cx) (e : Expr) (t : T) : Prop := PG X e (tG Z t)
abbrev RGs (Z : Fix) (X : Cx) (e : List Expr) (t : Ts) : Prop := PGs X e (tGs Z t)
theorem PG.imp {t t' : TG} (h : PG X e t) (k : ∀ v σ H Q, t' v σ H Q → t v σ H Q) : PG X e t' := ⟨fun pins s σ H v u Q I r q => h.run pins s σ H v u Q I r (k v σ H Q q)⟩
theorem PGs.imp {es : List Expr} {t t' : TGs} (h : PGs X es t) (k : ∀ v σ H Q, t' v σ H Q → t v σ H Q) : PGs X es t' := ⟨fun pins s σ H v u Q I r q => h.run pins s σ H v u Q I r (k v σ H Q q)⟩
theorem g_nm {i : Nat} (hN : X.N.Nodup) (hi : X.N[i]? = some x) (hx : Loc X.env.scope x) (hf : X.fn x = true ∨ X.env.scope.names.lookup x = some .local) : RG Z X (.Name x pos) (.nm i) :=
  PG.imp (pg_name hN hi hx hf) fun v σ H Q ⟨φ, ρ, M, d, ρ', a, j, k, q⟩ => by
    rw [T.put] at k
    cases k
    exact q _ ⟨a.m, repE_set a.e j⟩ fun vs h => wipe_set (h i (by simp [T.slots]))
theorem gs_nil : RGs Z X [] .nil := PGs.imp pgs_nil fun v σ H Q ⟨φ, ρ, M, d, ρ', a, j, k, q⟩ => by
  rw [Ts.put.eq_def] at k
  simp only at k
  split at k
  · rename_i h
    cases k
    cases d with
    | nil => exact ⟨j.inv0, q σ a fun _ _ => rfl⟩
    | cons => cases h
  · cases k
theorem gs_cons {es : List Expr} {t : T} {ts : Ts} (h1 : RG Z X e t) (h2 : RGs Z X es ts) (hs : (assignEach (e :: es) X.env).map (·.2) = assign e X.env :: (assignEach es X.env).map (·.2)) : RGs Z X (e :: es) (.cons t ts) :=
  PGs.imp (pgs_cons h1 h2 hs) fun v σ H Q ⟨φ, ρ, M, d, ρ', a, j, k, q⟩ => by
    rw [Ts.put.eq_def] at k
    cases d with
    | nil => cases k
    | cons d ds =>
      simp only at k
      obtain ⟨v, r, rfl, j1, j2⟩ := j.inv
      split at k
      · rename_i ρ1 k1
        refine ⟨v, r, rfl, φ, ρ, M, d, ρ1, a, j1, k1, fun σ1 a1 w1 => ⟨φ, ρ1, M, ds, ρ', a1, j2, k, fun σ2 a2 w2 => q σ2 a2 fun vs h => ?_⟩⟩
        rw [w2 vs fun i hi => h i (by simp [Ts.slots, hi]), w1 vs fun i hi => h i (by simp [Ts.slots, hi])]
      · cases k
theorem g_tp {es : List Expr} {k n : Nat} {ts : Ts} (g : Gd Z X) (h : RGs Z X es ts) (hn : (assignEach es X.env).length = n) (hst : (assignEach es X.env).findIdx? (·.1) = none)
    (hl : ∀ (ds : List D) (ρ ρ' : Env), Ts.put ts ds ρ = some ρ' → ds.length = n) : RG Z X (.Tuple es k pos) (.tp ts) :=
  PG.imp (pg_tup g.calm h hn hst) fun v σ H Q ⟨φ, ρ, M, d, ρ', a, j, k, q⟩ => by
    rw [T.put.eq_def] at k
    cases d with
    | tup ds =>
      rw [Is] at j
      obtain ⟨b, vs, rfl, h1, h2⟩ := j
      exact ⟨b, vs, rfl, by rw [g.hK]; exact sqT_out h1.sqT, by rw [← h2.length]; exact hl ds ρ ρ' k, φ, ρ, M, ds, ρ', a, h2, k, fun σ' a' w => q σ' a' fun vs h => w vs fun i hi => h i (by simpa [T.slots] using hi)⟩
    | key ds =>
      rw [Is] at j
      obtain ⟨b, vs, rfl, h1, h2⟩ := j
      exact ⟨b, vs, rfl, by rw [g.hK]; exact sqT_out (SqT.of h1), by rw [← h2.length]; exact hl ds ρ ρ' k, φ, ρ, M, ds, ρ', a, h2, k, fun σ' a' w => q σ' a' fun vs h => w vs fun i hi => h i (by simpa [T.slots] using hi)⟩
    | _ => cases k
def Ts.len : Ts → Nat
  | .nil => 0
  | .cons _ r => r.len + 1
theorem put_len : ∀ (ts : Ts) (ds : List D) (ρ ρ' : Env), Ts.put ts ds ρ = some ρ' → ds.length = ts.len
  | .nil, ds, ρ, ρ', h => by
    rw [Ts.put.eq_def] at h
    cases ds with
    | nil => rfl
    | cons => simp at h
  | .cons t r, ds, ρ, ρ', h => by
    rw [Ts.put.eq_def] at h
    cases ds with
    | nil => cases h
    | cons d ds =>
      simp only at h
      split at h
      · simp only [List.length_cons, Ts.len]
        rw [put_len r ds _ _ h]
      · cases h
/-! ### walkers -/
/-- later: the store may have grown, an object may stand hidden -/
structure Lat (Z : Fix) (φ0 : Ph) (H0 : Hp) (φ : Ph) (M : Store) (H : Hp) : Prop where
  m : RepM Z φ M H
  ext : ExtN (out φ0 H0) (out φ H)
  pre : ∃ ν, φ.s = φ0.s ++ ν
theorem Lat.step (l : Lat Z φ0 H0 φ M H) (s : Step Z φ H φ' H' M') : Lat Z φ0 H0 φ' M' H' := by
  obtain ⟨ν, e⟩ := l.pre
  obtain ⟨ν', e'⟩ := s.pre
  exact ⟨s.m, l.ext.trans s.ext, ν ++ ν', by rw [e']; show φ.s ++ ν' = _; rw [e, List.append_assoc]⟩
theorem Lat.iss (l : Lat Z φ0 H0 φ M H) {ds : List D} {vs : List V} (h : Iss Z φ0 (out φ0 H0) ds vs) : Iss Z φ (out φ H) ds vs := by
  obtain ⟨ν, e⟩ := l.pre
  exact Iss.hs (φ := φ0.add ν) e ds vs (Iss.mono l.ext ds vs h)
/-- J walks over ds (g: the store's list that they are) -/
structure WkD (Z : Fix) (φ0 : Ph) (H0 : Hp) (J : It) (ds : List D) (g : Option Nat) : Prop where
  goes : ∀ i φ M H, Lat Z φ0 H0 φ M H → guard g ds M → i < ds.length → J.go i H
  stops : ∀ φ M H, Lat Z φ0 H0 φ M H → guard g ds M → J.stop ds.length H
  yields : ∀ i φ M H x H', Lat Z φ0 H0 φ M H → guard g ds M → i < ds.length → J.yld i H x H' → Step Z φ H φ H' M ∧ ∀ d, ds[i]? = some d → Is Z φ (out φ H') d x
def tI (Z : Fix) (W : WX) (f : Env → Store → R (List D × Option Nat)) : TI := fun σ H K => ∃ φ ρ M, At Z φ ρ M σ H ∧
  post Z (fun φ' G' _ _ => True) W σ φ H (f ρ M) (fun (_ : Unit) _ => True) ∧ ∀ w M', f ρ M = .ok w M' → ∀ φ' H', Step Z φ H φ' H' M' → ∀ J, WkD Z φ' H' J w.1 w.2 → K J H'
end
end DL
end
section
set_option Elab.async false
set_option linter.all false
set_option maxRecDepth 100000
set_option autoImplicit false
set_option maxHeartbeats 4000000
/-! DLE: enumerate(tuple). -/
namespace DL
open PySem PySem.Spec PyProof.Rows L2

theorem enum_new1 {v : Value} {o : Obj} {H : Heap → Prop} (B : Begins v o H) :
    Meets (Builtin.«enumerate.__new__» ⟨[.type "enumerate", v], []⟩) (fun _ R s => H s.heap ∧
      R (.ok (.ret (.ref (s.heap.push o).objs.size))) { s with heap := (s.heap.push o).push { cls := .type "enumerate", data := .fields #[.none, .bool false, .ref s.heap.objs.size, rawInt 0, .none, .none] } }) :=
  .of_wp fun prog w A R s h => by
    obtain ⟨hp, g, d, tk, os⟩ := s
    obtain ⟨h1, h⟩ := h
    have hsub := sub_enumerate
    have it : ∀ {A' : Around} {E : Value → Shared → Prop} {Q : Value → Shared → Prop}, Q (.ref hp.objs.size) ⟨hp.push o, g, d, tk, os⟩ → wpAny (model prog w) A' (pyIter v) Q E ⟨hp, g, d, tk, os⟩ :=
      fun q => B.iter prog w _ _ ⟨hp, g, d, tk, os⟩ _ h1 q
    wp_walk using it
    refine wpAny_stack_any fun st => wpAny_pure ?_
    split
    · rename_i c _ _ _ _ _
      cases (c == Value.type "enumerate")
      all_goals
        wp_walk using it
        exact ⟨_, rfl, h⟩
    · wp_walk using it
      exact ⟨_, rfl, h⟩
section
variable {prog : Program} {w : World} {A : Around} {E : Value → Shared → Prop} {s : Shared}
theorem enum_call1 {v : Value} {o : Obj} {H : Heap → Prop} {Q : Value → Shared → Prop} (B : Begins v o H) (h1 : H s.heap)
    (h : ∀ h', IsEnum h' (s.heap.objs.size + 1) s.heap.objs.size 0 .none → h'.get? s.heap.objs.size = some o → h'.objs.size = s.heap.objs.size + 2 →
      (∀ b u, s.heap.get? b = some u → h'.get? b = some u) → Q (.ref (s.heap.objs.size + 1)) { s with heap := h' }) :
    wpAny (model prog w) A (call (.type "enumerate") [v]) Q E s := by
  refine callType_new F.called_enumerate (by decide) (F.typeCall_enumerate_1 _) (F.newCall_enumerate_1 _) (fun obj => F.args_object_init_2 obj _) F.entry_enumerate_new (enum_new1 B) ⟨h1, ?_⟩
  have hz : (s.heap.push o).objs.size = s.heap.objs.size + 1 := Heap.size_push ..
  show _ ∧ _
  rw [hz]
  have he : IsEnum ((s.heap.push o).push { cls := .type "enumerate", data := .fields #[.none, .bool false, .ref s.heap.objs.size, rawInt 0, .none, .none] }) (s.heap.objs.size + 1) s.heap.objs.size 0 .none := by
    have := Heap.get?_push_size (s.heap.push o) (o := { cls := .type "enumerate", data := .fields #[.none, .bool false, .ref s.heap.objs.size, rawInt 0, .none, .none] }) rfl
    rw [hz] at this
    exact this
  exact ⟨⟨_, he, rfl⟩, h _ he (Heap.get?_push_of_some _ (Heap.get?_push_size _ B.free)) (by rw [Heap.size_push, hz]) fun b u x => Heap.get?_push_of_some _ (Heap.get?_push_of_some _ x)⟩
end
/-- the tuple at a, each item in a new pair with its number -/
def IteT (K : PySem.W.Frag) (a : Addr) : It :=
  ⟨fun i H => ∃ (xs : List V) (x : V), SqT K H a xs ∧ xs[i]? = some x, fun i H v H' => ∃ T x, v = .ref T ∧ H T = none ∧ H' = upd H T (.tup [.int (i : Nat), x]) ∧ ∀ xs, SqT K H a xs → xs[i]? = some x, fun i H => ∃ xs : List V, SqT K H a xs ∧ xs.length ≤ i⟩
theorem turn_enumT {P : Program} {w : World} {K : PySem.W.Frag} {elts : List Expr} {kk : Nat} {tpos : Pos} (a e it : Addr) :
    Turn P w K (.Tuple elts kk tpos) (IteT K a) [e, it] e (fun i h => (∃ old, IsEnum h e it ((i : Nat) : Int) old) ∧ h.IsTupleIter it a i ∧ e ≠ it ∧ a ≠ it ∧ a ≠ e) where
  mem := by simp
  obj := fun i h st b hb => by
    obtain ⟨⟨old, he⟩, ⟨o, ho, hc, hd⟩, _⟩ := st
    have e' : b = e ∨ b = it := by simpa using hb
    rcases e' with z | z
    · rw [z]; exact ⟨_, he, fun v q => nomatch q⟩
    · rw [z]; exact ⟨o, ho, fun v q => by rw [hd] at q; cases q⟩
  keep := fun i h h' st k => let ⟨⟨old, he⟩, hi, hne⟩ := st; ⟨⟨old, k e (by simp) _ he⟩, hi.at fun o q => k it (by simp) o q, hne⟩
  item := by
    intro X hP hw hK hc i pins s σ H E I hf st hg
    subst hP hw hK
    obtain ⟨⟨old, he⟩, hit, hne, hai, hae⟩ := st
    obtain ⟨xs, x, hq, hx⟩ := hg
    obtain ⟨its, rv, p, hz⟩ := I.tuple hq
    obtain ⟨u, hu, ru⟩ := rv.get hx
    have hel : e < s.heap.objs.size := Heap.lt_size he
    have hil : it < s.heap.objs.size := by obtain ⟨_, q, _⟩ := hit; exact Heap.lt_size q
    have D := Draws.tuple (prog := X.prog) (w := X.w) (A := X.A.in1) (I.ok.hd hc) it a hai its.toArray
    have hi : i < its.toArray.size := by
      have := (List.getElem?_eq_some_iff.mp hu).1
      simpa using this
    refine wpAny_pyNext_enum_itemC D he ⟨hit, show s.heap.IsTuple a its.toArray from p⟩ hi hne (by simp [hne, Ne.symm hae]) fun y h' tk hP ho hst' hT hsz hk => ?_
    have ey : y = u := by
      have : its.toArray[i]? = some u := by simpa using hu
      rw [this] at hP
      exact (Option.some.inj hP).symm
    subst ey
    refine ⟨_, rfl, wpAny_letOwnedTupleGo_enum (s := { s with heap := h', toks := tk + 1 }) ho fun h'' he' sb => ?_⟩
    have hT2 : h''.get? s.heap.objs.size = some { cls := .type "tuple", data := .seq #[.int i tk, y] } := (sb.2 _ (Nat.ne_of_gt hel)).trans hT
    have new : ObjOk X.prog X.w (upd H s.heap.objs.size (.tup [.int (i : Nat), x])) h'' s.heap.objs.size (.tup [.int (i : Nat), x]) :=
      ⟨by show 2 ≤ sizeLine; decide, [.int i tk, y], .cons ⟨_, rfl⟩ (.cons ru .nil), ⟨_, hT2, rfl, _, rfl⟩⟩
    have I1 : Inv X pins σ (upd H s.heap.objs.size (.tup [.int (i : Nat), x])) { s with heap := h'', toks := tk + 1 } :=
      I.turnedNew (ch := [e, it]) (fun b ob hb q => (sb.2 b (fun z => hb (by simp [z]))).trans (hk b ob (fun z => hb (by simp [z])) (fun z => hb (by simp [z])) q)) hf (Nat.le_refl _) new
    refine ⟨.ref s.heap.objs.size, _, I1, rfl, ⟨_, x, rfl, I.hok.fresh (Nat.le_refl _), rfl, fun ys hy => by rw [I.tuple_inj hy hq]; exact hx⟩, ⟨⟨y, ?_⟩, hst'.1.at fun o q => (sb.2 it (Ne.symm hne)).trans q, hne, hai, hae⟩, fun b hb => ?_⟩
    · have e1 : ((i + 1 : Nat) : Int) = (i : Int) + 1 := by omega
      rw [e1]; exact he'
    · have hb' : b < s.heap.objs.size := by
        have e' : b = e ∨ b = it := by simpa using hb
        rcases e' with z | z
        · rw [z]; exact hel
        · rw [z]; exact hil
      rw [upd_ne (Nat.ne_of_lt hb')]
      exact (hf b hb).1
  done := by
    intro X hP hw hK hc i pins s σ H E I hf st hg
    subst hP hw hK
    obtain ⟨⟨old, he⟩, hit, hne, hai, hae⟩ := st
    obtain ⟨xs, hq, hx⟩ := hg
    obtain ⟨its, rv, p, hz⟩ := I.tuple hq
    obtain ⟨f0, f1, f2, f3, f4, f5⟩ := hf it (by simp)
    have hl := rv.length
    have hsz : its.toArray.size ≤ i := by simp; omega
    have D : Draws X.prog X.w X.A.in1 it [it, a] i (fun i v => its.toArray[i]? = some v) (fun j h => i ≤ j ∧ h.IsTupleIter it a j ∧ h.IsTuple a its.toArray) := by
      have D0 := Draws.tuple (prog := X.prog) (w := X.w) (A := X.A.in1) (I.ok.hd hc) it a hai its.toArray
      exact ⟨fun j h st => D0.live j h st.2, fun j h h' st k => ⟨st.1, D0.frame j h h' st.2 k⟩, fun j s Q E hj st hQ => absurd hj (Nat.not_lt.mpr st.1), fun s Q E st hE => wpAny_nextOf_tuple_end (I.ok.hd hc) st.2.1 st.2.2 (Array.getElem?_eq_none hsz) hE⟩
    exact wpAny_pyNext_enum_endD D he ⟨Nat.le_refl _, hit, show s.heap.IsTuple a its.toArray from p⟩ fun h' eb => ⟨rfl, I.turned (t' := s.toks) (fun b o hb q => eb b o hb q) f0 f1 f3 f4 f5⟩
  self := fun A i s Q E st h => let ⟨⟨_, he⟩, _⟩ := st; wpAny_pyIter_enum he h
/-- a list or a tuple -/
def iEnumA (K : PySem.W.Frag) (ta : TA) : TI := fun σ H R => ta σ H fun vs H1 => ∃ a xs, vs = [.ref a] ∧ ((SqL K H1 a xs ∧ R (Ite K a) H1) ∨ (SqT K H1 a xs ∧ R (IteT K a) H1))
theorem pi_enumA {X : Cx} {e : Expr} {ta : TA} {p pos tpos : Pos} {elts : List Expr} {kk : Nat} (hg : Gl X "enumerate") (hm : X.mg "enumerate" = none) (ha : PA X [e] ta) (hs : starEach [e] X.env = [(false, eval e X.env)]) :
    PI X (.Tuple elts kk tpos) (.Call (.Name "enumerate" p) [e] [] pos) (iEnumA X.K ta) := by
  refine ⟨fun pins s σ H R I h => ?_⟩
  refine Call_ (ld_blt I hg hm boot_enumerate (PyProof.Rows.callWith_type1 (thn (ha.run pos pins s σ H _ I h) fun us s1 ⟨vs, H1, I1, r1, q1⟩ => ?_) hs rfl))
  obtain ⟨a, xs, ex, q1⟩ := q1
  subst ex
  cases r1 with
  | cons r rr =>
    cases rr
    cases r
    have fr : ∀ b ∈ [s1.heap.objs.size + 1, s1.heap.objs.size], FpOk X pins H1 b := fun b hb => by
      have hle : s1.heap.objs.size ≤ b := by
        have e' : b = s1.heap.objs.size + 1 ∨ b = s1.heap.objs.size := by simpa using hb
        rcases e' with z | z
        · rw [z]; exact Nat.le_add_right _ _
        · rw [z]; exact Nat.le_refl _
      exact I1.fpOk hle (I1.hok.fresh hle)
    rcases q1 with ⟨hq, q⟩ | ⟨hq, q⟩
    · obtain ⟨its, rv, p', hz⟩ := I1.list hq
      refine call_enumerate_list p'.isList fun h' he hit hsz hk => wpAny_pyIter_enum he ?_
      exact ⟨s1.heap.objs.size + 1, [s1.heap.objs.size + 1, s1.heap.objs.size], _, _, H1, rfl, I1.kept (t' := s1.toks) hk, turn_enum a (s1.heap.objs.size + 1) s1.heap.objs.size, ⟨⟨.none, he⟩, hit, Nat.succ_ne_self _⟩, fr, q⟩
    · obtain ⟨its, rv, p', hz⟩ := I1.tuple hq
      have al : a < s1.heap.objs.size := by obtain ⟨o, ho, _⟩ := id p'; exact Heap.lt_size ho
      refine enum_call1 (begins_tuple a its.toArray) (show s1.heap.IsTuple a its.toArray from p') fun h' he hit hsz hk => wpAny_pyIter_enum he ?_
      exact ⟨s1.heap.objs.size + 1, [s1.heap.objs.size + 1, s1.heap.objs.size], _, _, H1, rfl, I1.kept (t' := s1.toks) hk, turn_enumT a (s1.heap.objs.size + 1) s1.heap.objs.size,
        ⟨⟨.none, he⟩, ⟨_, hit, rfl, rfl⟩, Nat.succ_ne_self _, Nat.ne_of_lt al, Nat.ne_of_lt (Nat.lt_succ_of_lt al)⟩, fr, q⟩
end DL
end
section
set_option Elab.async false
set_option linter.all false
set_option maxRecDepth 100000
set_option autoImplicit false
set_option maxHeartbeats 4000000
/-! DL15: what is walked: lists, tuples, texts, ranges, enumerate, zip. -/
namespace DL
open PySem PySem.Spec PyProof.Rows L2 LamX

section
variable {Z : Fix} {W : WX} {P : Fns} {X : Cx} {φ ψ φ' φ0 φ1 : Ph} {H H' H0 H1 : Hp} {M M' : Store} {σ : L2.St} {ρ : Env} {e a b tg : Expr} {A B : E} {pos p tpos : Pos} {x : Str}
abbrev RI (Z : Fix) (W : WX) (P : Fns) (X : Cx) (tg it : Expr) (I : I) : Prop := PI X tg it (tI Z W (evI P I))
theorem PI.imp {t t' : TI} (h : PI X tg e t) (k : ∀ σ H Q, t' σ H Q → t σ H Q) : PI X tg e t' := ⟨fun pins s σ H Q I q => h.run pins s σ H Q I (k σ H Q q)⟩
theorem Lat.refl (m : RepM Z φ M H) : Lat Z φ H φ M H := ⟨m, ExtN.refl _, [], by simp⟩
theorem Lat.out (l : Lat Z φ0 H0 φ M H) {a : Addr} {u : HO} (h : DL.out φ0 H0 a = some u) (t : ∀ ps, u ≠ .tbl ps) : DL.out φ H a = some u := l.ext a u h t
/-! the walkers -/
theorem wk_tup (K : PySem.W.Frag) {a : Addr} {ds : List D} {vs : List V} (h : SqT K (out φ0 H0) a vs) (i : Iss Z φ0 (out φ0 H0) ds vs) : WkD Z φ0 H0 (Itt K a) ds none := by
  have hq : ∀ φ M H, Lat Z φ0 H0 φ M H → SqT K H a vs := fun φ M H l => sqT_out (ExtN.sqT l.ext h)
  refine ⟨fun j φ M H l _ hj => walk_tup.goes j H (by rw [← i.length]; exact hj) (hq φ M H l), fun φ M H l _ => by rw [i.length]; exact walk_tup.stops H (hq φ M H l), fun j φ M H x H' l _ hj y => ?_⟩
  obtain ⟨rfl, e⟩ := walk_tup.yields j H x H' (by rw [← i.length]; exact hj) (hq φ M H l) y
  refine ⟨Step.refl l.m, fun d hd => ?_⟩
  obtain ⟨v, e1, e2⟩ := (l.iss i).get hd
  rw [e] at e1
  cases e1
  exact e2
theorem wk_lst (K : PySem.W.Frag) {a : Addr} {ds : List D} {vs : List V} (h : out φ0 H0 a = some (.lst vs)) (i : Iss Z φ0 (out φ0 H0) ds vs) : WkD Z φ0 H0 (Itl K a) ds none := by
  have hq : ∀ φ M H, Lat Z φ0 H0 φ M H → SqL K H a vs := fun φ M H l => SqL.of (out_some (l.out h fun ps z => by cases z)).2
  refine ⟨fun j φ M H l _ hj => walk_list.goes j H (by rw [← i.length]; exact hj) (hq φ M H l), fun φ M H l _ => by rw [i.length]; exact walk_list.stops H (hq φ M H l), fun j φ M H x H' l _ hj y => ?_⟩
  obtain ⟨rfl, e⟩ := walk_list.yields j H x H' (by rw [← i.length]; exact hj) (hq φ M H l) y
  refine ⟨Step.refl l.m, fun d hd => ?_⟩
  obtain ⟨v, e1, e2⟩ := (l.iss i).get hd
  rw [e] at e1
  cases e1
  exact e2
theorem wk_ref (K : PySem.W.Frag) {a : Addr} {ds : List D} {n : Nat} (h : φ0.s[n]? = some a) : WkD Z φ0 H0 (Itl K a) ds (some n) := by
  have hq : ∀ φ M H, Lat Z φ0 H0 φ M H → guard (some n) ds M → ∃ vs, SqL K H a vs ∧ Iss Z φ (out φ H) ds vs := fun φ M H l g => by
    obtain ⟨ν, e⟩ := l.pre
    obtain ⟨vs, e1, e2⟩ := l.m.lst (n := n) (a := a) g (by rw [e, List.getElem?_append_left (List.getElem?_eq_some_iff.mp h).1]; exact h)
    exact ⟨vs, SqL.of e1, e2⟩
  refine ⟨fun j φ M H l g hj => ?_, fun φ M H l g => ?_, fun j φ M H x H' l g hj y => ?_⟩
  · obtain ⟨vs, q, i⟩ := hq φ M H l g
    exact walk_list.goes j H (by rw [← i.length]; exact hj) q
  · obtain ⟨vs, q, i⟩ := hq φ M H l g
    rw [i.length]
    exact walk_list.stops H q
  · obtain ⟨vs, q, i⟩ := hq φ M H l g
    obtain ⟨rfl, e⟩ := walk_list.yields j H x H' (by rw [← i.length]; exact hj) q y
    refine ⟨Step.refl l.m, fun d hd => ?_⟩
    obtain ⟨v, e1, e2⟩ := i.get hd
    rw [e] at e1
    cases e1
    exact e2
theorem wk_str {x : List Nat} (hs : x.all (fun c => decide (c < 1114112)) = true) : WkD Z φ0 H0 (Its (cs x)) (letters x) none := by
  have hl : (letters x).length = (cs x).cps.size := by simp [letters]
  refine ⟨fun j φ M H l _ hj => walk_str.goes j H (by rw [← hl]; exact hj) True.intro, fun φ M H l _ => by rw [hl]; exact walk_str.stops H True.intro, fun j φ M H y H' l _ hj yy => ?_⟩
  obtain ⟨rfl, c, e1, rfl⟩ := walk_str.yields j H y H' (by rw [← hl]; exact hj) True.intro yy
  refine ⟨Step.refl l.m, fun d hd => ?_⟩
  have e2 : x[j]? = some c := by simpa using e1
  unfold letters at hd
  rw [List.getElem?_map, e2] at hd
  cases hd
  rw [Is]
  refine ⟨rfl, ?_⟩
  simp only [List.all_cons, List.all_nil, Bool.and_true]
  exact List.all_eq_true.mp hs c (List.mem_of_getElem? e2)
theorem wk_rng {i j : Int} : WkD Z φ0 H0 (Itr i (j - i).toNat) (range i j) none := by
  have hl : (range i j).length = (j - i).toNat := by simp [range]
  refine ⟨fun k φ M H l _ hj => walk_range.goes k H (by rw [← hl]; exact hj) True.intro, fun φ M H l _ => by rw [hl]; exact walk_range.stops H True.intro, fun k φ M H y H' l _ hj yy => ?_⟩
  obtain ⟨rfl, rfl⟩ := walk_range.yields k H y H' (by rw [← hl]; exact hj) True.intro yy
  refine ⟨Step.refl l.m, fun d hd => ?_⟩
  unfold range at hd
  rw [List.getElem?_map, List.getElem?_range (by rw [← hl]; exact hj)] at hd
  cases hd
  rw [Is]
/-! a value that is walked -/
def iAny (K : PySem.W.Frag) (te : TE) : TI := fun σ H R => te σ H fun x H1 => (∃ a, x = .ref a ∧ (∃ xs, SqL K H1 a xs) ∧ R (Itl K a) H1) ∨ (∃ a, x = .ref a ∧ (∃ xs, SqT K H1 a xs) ∧ R (Itt K a) H1) ∨ ∃ z, x = .str z ∧ R (Its z) H1
theorem pi_any {te : TE} (he : PE X e te) : PI X tg e (iAny X.K te) := by
  refine ⟨fun pins s σ H R I h => ?_⟩
  refine thn (he.run pins s σ H _ I h) fun v s1 ⟨x, H1, I1, r1, q1⟩ => ?_
  rcases q1 with ⟨a, e, ⟨xs, hq⟩, q⟩ | ⟨a, e, ⟨xs, hq⟩, q⟩ | ⟨z, e, q⟩
  · subst e
    cases r1
    obtain ⟨its, rv, p, hz⟩ := I1.list hq
    exact wpAny_pyIter_list p.isList (pi_one (tk := s1.toks) I1 _ (turn_list a _) ⟨_, Heap.get?_push_size _ rfl, rfl, rfl⟩ q)
  · subst e
    cases r1
    obtain ⟨its, rv, p, hz⟩ := I1.tuple hq
    exact wpAny_pyIter_tuple (show s1.heap.IsTuple a its.toArray from p) (pi_one (tk := s1.toks) I1 _ (turn_tuple a _) ⟨_, Heap.get?_push_size _ rfl, rfl, rfl⟩ q)
  · subst e
    obtain ⟨t, rfl⟩ := r1
    cases ha : z.cps.all (· < 128)
    · exact wpAny_pyIter_wide ha (pi_one (tk := s1.toks) I1 _ (turn_str _ z t "str_iterator" (.inr rfl)) ⟨_, Heap.get?_push_size _ rfl, rfl, rfl⟩ q)
    · exact wpAny_pyIter_ascii ha (pi_one (tk := s1.toks) I1 _ (turn_str _ z t "str_ascii_iterator" (.inl rfl)) ⟨_, Heap.get?_push_size _ rfl, rfl, rfl⟩ q)
/-- a part, then what is walked -/
theorem tI.bind {α : Type} {σ : L2.St} {K : It → Hp → Prop} {fa : Env → Store → R D} {f : D → Store → R (List D × Option Nat)} (h : tI Z W (fun ρ M => (fa ρ M).bind f) σ H K) :
    tE Z W fa σ H fun x H1 => ∃ φ1 ρ1 M1 d, At Z φ1 ρ1 M1 σ H1 ∧ Is Z φ1 (out φ1 H1) d x ∧ post Z (fun φ' G' _ _ => True) W σ φ1 H1 (f d M1) (fun (_ : Unit) _ => True) ∧
      ∀ w M', f d M1 = .ok w M' → ∀ φ' H', Step Z φ1 H1 φ' H' M' → ∀ J, WkD Z φ' H' J w.1 w.2 → K J H' := by
  obtain ⟨φ, ρ, M, a, q1, q2⟩ := h
  dsimp only at q1 q2
  refine ⟨φ, ρ, M, a, ?_⟩
  cases e : fa ρ M with
  | ok d M1 =>
    rw [e] at q1
    refine fun φ1 v H1 s i => ⟨φ1, ρ, M1, d, s.at_ a, i, post.rebase s q1, fun w M' ew φ' H' s' J wk => q2 w M' (by rw [e]; exact ew) φ' H' (s.trans s') J wk⟩
  | ex c ds M1 =>
    rw [e] at q1
    exact q1
  | no =>
    rw [e] at q1
    exact q1.elim
theorem i_seq (g : Gd Z X) (he : RE Z W P X e A) : RI Z W P X tg e (.seq A) :=
  PI.imp (pi_any he) fun σ H K h => by
    have h : tI Z W (fun ρ M => (ev P A ρ M).bind fun d M => ofO (walked M d) M) σ H K := by
      have e1 : evI P (.seq A) = fun ρ M => (ev P A ρ M).bind fun d M => ofO (walked M d) M := by
        funext ρ M
        rw [evI]
      rw [e1] at h
      exact h
    refine (tI.bind (α := Unit) h).mono fun x H1 ⟨φ1, ρ1, M1, d, a1, i, q1, q2⟩ => ?_
    have fin : ∀ w, walked M1 d = some w → ∀ J, WkD Z φ1 H1 J w.1 w.2 → K J H1 := fun w ew J wk => q2 w M1 (by rw [ew]; rfl) φ1 H1 (Step.refl a1.m) J wk
    cases hw : walked M1 d with
    | none => rw [hw] at q1; exact q1.elim
    | some w =>
      have fin := fin w hw
      unfold walked at hw
      split at hw
      · rename_i ds
        cases hw
        rw [Is] at i
        obtain ⟨a, vs, rfl, h1, h2⟩ := i
        exact .inr (.inl ⟨a, rfl, ⟨vs, by rw [g.hK]; exact sqT_out h1.sqT⟩, fin _ (by rw [g.hK]; exact wk_tup Z.K h1.sqT h2)⟩)
      · rename_i ds
        cases hw
        rw [Is] at i
        obtain ⟨a, vs, rfl, h1, h2⟩ := i
        exact .inr (.inl ⟨a, rfl, ⟨vs, SqT.of (out_some h1).2⟩, fin _ (wk_tup X.K (SqT.of h1) h2)⟩)
      · rename_i ds
        cases hw
        rw [Is] at i
        obtain ⟨a, vs, rfl, h1, h2⟩ := i
        exact .inl ⟨a, rfl, ⟨vs, SqL.of (out_some h1).2⟩, fin _ (wk_lst X.K h1 h2)⟩
      · rename_i t
        split at hw
        · cases hw
          obtain ⟨rfl, s1⟩ := is_str i
          exact .inr (.inr ⟨_, rfl, fin _ (wk_str s1)⟩)
        · cases hw
      · rename_i n
        split at hw
        · rename_i ds e2
          cases hw
          rw [Is] at i
          obtain ⟨a, rfl, h1⟩ := i
          obtain ⟨vs, k1, k2⟩ := a1.m.lst e2 h1
          exact .inl ⟨a, rfl, ⟨vs, SqL.of k1⟩, fin _ (wk_ref X.K h1)⟩
        · cases hw
      · cases hw
end
end DL
end
section
set_option Elab.async false
set_option linter.all false
set_option maxRecDepth 100000
set_option autoImplicit false
set_option maxHeartbeats 4000000
/-! DL16: ranges, enumerate, zip. -/
namespace DL
open PySem PySem.Spec PyProof.Rows L2 LamX

section
variable {Z : Fix} {W : WX} {P : Fns} {X : Cx} {φ ψ φ' φ0 φ1 : Ph} {H H' H0 H1 : Hp} {M M' : Store} {σ : L2.St} {ρ : Env} {e a b tg : Expr} {A B : E} {pos p tpos : Pos} {x : Str}
theorem wk_rng1 {j : Int} : WkD Z φ0 H0 (Itr 0 j.toNat) (range 0 j) none := by
  have := wk_rng (Z := Z) (φ0 := φ0) (H0 := H0) (i := 0) (j := j)
  rw [Int.sub_zero] at this
  exact this
theorem big_of {i : Int} (h : big i = true) : -(2 ^ 62) ≤ i ∧ i < 2 ^ 62 := by
  unfold big at h
  simpa using h
theorem i_rng1 (g : Gd Z X) (hg : Gl X "range") (hm : X.mg "range" = none) (ha : RE Z W P X a A) (hs : starEach [a] X.env = (false, eval a X.env) :: starEach [] X.env) (hs' : starEach [a] X.env = [(false, eval a X.env)]) :
    RI Z W P X tg (.Call (.Name "range" p) [a] [] pos) (.rng1 A) :=
  PI.imp (pi_range1 hg hm (pa_cons ha pa_nil hs) hs') fun σ H K h => by
    have e1 : evI P (.rng1 A) = fun ρ M => (ev P A ρ M).bind fun x M => match x with
      | .int i => if big i then .ok (range 0 i, none) M else .no
      | _ => .no := by
      funext ρ M
      rw [evI]
      try rfl
    rw [e1] at h
    refine (tI.bind (α := Unit) h).mono fun x H1 ⟨φ1, ρ1, M1, d, a1, i, q1, q2⟩ => ?_
    split at q1
    · split at q1
      · rename_i n hb
        obtain ⟨h1, h2⟩ := big_of hb
        refine ⟨n, by rw [is_int i], h1, h2, q2 (range 0 n, none) M1 (by show (if big n = true then _ else _) = _; rw [if_pos hb]) φ1 H1 (Step.refl a1.m) _ wk_rng1⟩
      · exact q1.elim
    · exact q1.elim
theorem tI.bind1 {α : Type} {σ : L2.St} {φ : Ph} {ρ : Env} {M : Store} {K : It → Hp → Prop} {fa : Env → Store → R D} {f : D → Store → R (List D × Option Nat)} (a : At Z φ ρ M σ H) (q1 : post Z (fun φ' G' _ _ => True) W σ φ H ((fa ρ M).bind f) (fun (_ : Unit) _ => True))
    (q2 : ∀ w M', (fa ρ M).bind f = .ok w M' → ∀ φ' H', Step Z φ H φ' H' M' → ∀ J, WkD Z φ' H' J w.1 w.2 → K J H') :
    tE Z W fa σ H fun x H1 => ∃ φ1 M1 d, At Z φ1 ρ M1 σ H1 ∧ Step Z φ H φ1 H1 M1 ∧ Is Z φ1 (out φ1 H1) d x ∧ post Z (fun φ' G' _ _ => True) W σ φ1 H1 (f d M1) (fun (_ : Unit) _ => True) ∧
      ∀ w M', f d M1 = .ok w M' → ∀ φ' H', Step Z φ1 H1 φ' H' M' → ∀ J, WkD Z φ' H' J w.1 w.2 → K J H' := by
  refine ⟨φ, ρ, M, a, ?_⟩
  cases e : fa ρ M with
  | ok d M1 =>
    rw [e] at q1 q2
    exact fun φ1 v H1 s i => ⟨φ1, M1, d, s.at_ a, s, i, post.rebase s q1, fun w M' ew φ' H' s' J wk => q2 w M' ew φ' H' (s.trans s') J wk⟩
  | ex c ds M1 =>
    rw [e] at q1
    exact q1
  | no =>
    rw [e] at q1
    exact q1.elim
/-- two parts -/
theorem tI.bind2 {σ : L2.St} {K : It → Hp → Prop} {fa fb : Env → Store → R D} {f : D → D → Store → R (List D × Option Nat)} (h : tI Z W (fun ρ M => (fa ρ M).bind fun x M => (fb ρ M).bind fun y M => f x y M) σ H K) :
    tE Z W fa σ H fun x H1 => tE Z W fb σ H1 fun y H2 => ∃ φ2 M2 d e, RepM Z φ2 M2 H2 ∧ Is Z φ2 (out φ2 H2) d x ∧ Is Z φ2 (out φ2 H2) e y ∧ post Z (fun φ' G' _ _ => True) W σ φ2 H2 (f d e M2) (fun (_ : Unit) _ => True) ∧
      ∀ w M', f d e M2 = .ok w M' → ∀ φ' H', Step Z φ2 H2 φ' H' M' → ∀ J, WkD Z φ' H' J w.1 w.2 → K J H' := by
  obtain ⟨φ, ρ, M, a, q1, q2⟩ := h
  dsimp only at q1 q2
  refine (tI.bind1 (α := Unit) a q1 q2).mono fun x H1 ⟨φ1, M1, d, a1, s1, i, q3, q4⟩ => (tI.bind1 (α := Unit) a1 q3 q4).mono fun y H2 ⟨φ2, M2, e, a2, s2, j, q5, q6⟩ => ?_
  exact ⟨φ2, M2, d, e, a2.m, s2.is i, j, q5, q6⟩
theorem i_rng2 (g : Gd Z X) (hg : Gl X "range") (hm : X.mg "range" = none) (ha : RE Z W P X a A) (hb : RE Z W P X b B) (hs : starEach [a, b] X.env = (false, eval a X.env) :: starEach [b] X.env) (hs2 : starEach [b] X.env = (false, eval b X.env) :: starEach [] X.env)
    (hs' : starEach [a, b] X.env = [(false, eval a X.env), (false, eval b X.env)]) (hs2' : starEach [b] X.env = [(false, eval b X.env)]) : RI Z W P X tg (.Call (.Name "range" p) [a, b] [] pos) (.rng2 A B) :=
  PI.imp (pi_range2 hg hm (pa_cons ha (pa_cons hb pa_nil hs2) hs) hs' hs2') fun σ H K h => by
    have e1 : evI P (.rng2 A B) = fun ρ M => (ev P A ρ M).bind fun x M => (ev P B ρ M).bind fun y M => match x, y with
      | .int i, .int j => if big i && big j then .ok (range i j, none) M else .no
      | _, _ => .no := by
      funext ρ M
      rw [evI]
      try rfl
    rw [e1] at h
    refine (tI.bind2 h).mono fun x H1 h1 => h1.mono fun y H2 ⟨φ2, M2, d, e, m2, i, j, q1, q2⟩ => ?_
    split at q1
    · split at q1
      · rename_i n k hb
        have hb' := hb
        simp only [Bool.and_eq_true] at hb
        obtain ⟨h1, h2⟩ := big_of hb.1
        obtain ⟨h3, h4⟩ := big_of hb.2
        exact ⟨n, k, by rw [is_int i, is_int j], ⟨h1, h2, h3, h4⟩, q2 (range n k, none) M2 (by show (if (big n && big k) = true then _ else _) = _; rw [if_pos hb']) φ2 H2 (Step.refl m2) _ wk_rng⟩
      · exact q1.elim
    · exact q1.elim
/-! ### new pairs -/
theorem key2 (m : RepM Z φ M H) {T : Addr} {x y : V} {d e : D} (hT : H T = none) (i : Is Z φ (out φ H) d x) (j : Is Z φ (out φ H) e y) : Step Z φ H φ (upd H T (.tup [x, y])) M ∧ Is Z φ (out φ (upd H T (.tup [x, y]))) (.key [d, e]) (.ref T) := by
  have s := step_new (o := .tup [x, y]) m hT
  refine ⟨s, ?_⟩
  rw [Is]
  exact ⟨T, [x, y], rfl, out_of (m.fresh hT) upd_same, Iss.cons (s.is i) (Iss.cons (s.is j) Iss.nil)⟩
theorem numT_get {ds : List D} {i : Nat} {d : D} (h : (numT ds)[i]? = some d) : ∃ x, ds[i]? = some x ∧ d = .key [.int (i : Nat), x] := by
  unfold numT at h
  rw [List.getElem?_map, List.getElem?_zipIdx] at h
  cases e : ds[i]? with
  | none => rw [e] at h; cases h
  | some x =>
    rw [e] at h
    refine ⟨x, rfl, ?_⟩
    simp at h
    exact h.symm
theorem zipT_get {xs ys : List D} {i : Nat} {d : D} (h : (zipT xs ys)[i]? = some d) : ∃ x y, xs[i]? = some x ∧ ys[i]? = some y ∧ d = .key [x, y] := by
  unfold zipT at h
  rw [List.getElem?_map] at h
  cases e : (xs.zip ys)[i]? with
  | none => rw [e] at h; cases h
  | some p =>
    rw [e] at h
    obtain ⟨h1, h2⟩ := List.getElem?_zip_eq_some.mp (show (xs.zip ys)[i]? = some (p.1, p.2) from e)
    refine ⟨p.1, p.2, h1, h2, ?_⟩
    simp at h
    exact h.symm
theorem numT_len (ds : List D) : (numT ds).length = ds.length := by simp [numT]
theorem zipT_len (xs ys : List D) : (zipT xs ys).length = min xs.length ys.length := by simp [zipT]
theorem wk_enumT (K : PySem.W.Frag) {a : Addr} {ds : List D} {vs : List V} (h : SqT K (out φ0 H0) a vs) (i : Iss Z φ0 (out φ0 H0) ds vs) : WkD Z φ0 H0 (IteT K a) (numT ds) none := by
  have hq : ∀ φ M H, Lat Z φ0 H0 φ M H → SqT K H a vs := fun φ M H l => sqT_out (ExtN.sqT l.ext h)
  refine ⟨fun j φ M H l _ hj => ⟨vs, vs[j]'(by rw [← i.length, ← numT_len]; exact hj), hq φ M H l, List.getElem?_eq_getElem _⟩, fun φ M H l _ => ⟨vs, hq φ M H l, by rw [numT_len, i.length]; exact Nat.le_refl _⟩, fun j φ M H x H' l _ hj y => ?_⟩
  obtain ⟨T, x0, rfl, hT, rfl, hx⟩ := y
  have hj' : j < ds.length := by rw [numT_len] at hj; exact hj
  obtain ⟨v, e1, e2⟩ := (l.iss i).get (List.getElem?_eq_getElem hj')
  rw [hx vs (hq φ M H l)] at e1
  cases e1
  obtain ⟨s, k⟩ := key2 l.m hT (d := .int (j : Nat)) (by rw [Is]) e2
  refine ⟨s, fun d hd => ?_⟩
  obtain ⟨z, h1, rfl⟩ := numT_get hd
  rw [List.getElem?_eq_getElem hj'] at h1
  cases h1
  exact k
theorem wk_enumL (K : PySem.W.Frag) {a : Addr} {ds : List D} {vs : List V} (h : out φ0 H0 a = some (.lst vs)) (i : Iss Z φ0 (out φ0 H0) ds vs) : WkD Z φ0 H0 (Ite K a) (numT ds) none := by
  have hq : ∀ φ M H, Lat Z φ0 H0 φ M H → SqL K H a vs := fun φ M H l => SqL.of (out_some (l.out h fun ps z => by cases z)).2
  refine ⟨fun j φ M H l _ hj => ⟨vs, vs[j]'(by rw [← i.length, ← numT_len]; exact hj), hq φ M H l, List.getElem?_eq_getElem _⟩, fun φ M H l _ => ⟨vs, hq φ M H l, by rw [numT_len, i.length]; exact Nat.le_refl _⟩, fun j φ M H x H' l _ hj y => ?_⟩
  obtain ⟨T, x0, rfl, hT, rfl, hx⟩ := y
  have hj' : j < ds.length := by rw [numT_len] at hj; exact hj
  obtain ⟨v, e1, e2⟩ := (l.iss i).get (List.getElem?_eq_getElem hj')
  rw [hx vs (hq φ M H l)] at e1
  cases e1
  obtain ⟨s, k⟩ := key2 l.m hT (d := .int (j : Nat)) (by rw [Is]) e2
  refine ⟨s, fun d hd => ?_⟩
  obtain ⟨z, h1, rfl⟩ := numT_get hd
  rw [List.getElem?_eq_getElem hj'] at h1
  cases h1
  exact k
theorem asTup_sq {d : D} {ds : List D} {G : Hp} {x : V} (h : asTup d = some ds) (i : Is Z φ G d x) : ∃ a vs, x = .ref a ∧ SqT Z.K G a vs ∧ Iss Z φ G ds vs := by
  cases d with
  | tup es =>
    cases h
    rw [Is] at i
    obtain ⟨a, vs, rfl, h1, h2⟩ := i
    exact ⟨a, vs, rfl, h1.sqT, h2⟩
  | key es =>
    cases h
    rw [Is] at i
    obtain ⟨a, vs, rfl, h1, h2⟩ := i
    exact ⟨a, vs, rfl, SqT.of h1, h2⟩
  | _ => cases h
theorem i_enm {elts : List Expr} {kk : Nat} (g : Gd Z X) (hg : Gl X "enumerate") (hm : X.mg "enumerate" = none) (ha : RE Z W P X a A) (hs : starEach [a] X.env = (false, eval a X.env) :: starEach [] X.env) (hs' : starEach [a] X.env = [(false, eval a X.env)]) :
    RI Z W P X (.Tuple elts kk tpos) (.Call (.Name "enumerate" p) [a] [] pos) (.enm A) :=
  PI.imp (pi_enumA hg hm (pa_cons ha pa_nil hs) hs') fun σ H K h => by
    have e1 : evI P (.enm A) = fun ρ M => (ev P A ρ M).bind fun d M => match d with
      | .lst ds => .ok (numT ds, none) M
      | d => match asTup d with
        | some ds => .ok (numT ds, none) M
        | none => .no := by
      funext ρ M
      rw [evI]
      try rfl
    rw [e1] at h
    refine (tI.bind (α := Unit) h).mono fun x H1 ⟨φ1, ρ1, M1, d, a1, i, q1, q2⟩ => ?_
    split at q1
    · rename_i ds
      rw [Is] at i
      obtain ⟨b, vs, rfl, h1, h2⟩ := i
      exact ⟨b, vs, rfl, .inl ⟨SqL.of (out_some h1).2, q2 _ M1 rfl φ1 H1 (Step.refl a1.m) _ (wk_enumL X.K h1 h2)⟩⟩
    · rename_i hno
      cases hd : asTup d with
      | none => rw [hd] at q1; exact q1.elim
      | some ds =>
        obtain ⟨b, vs, rfl, h1, h2⟩ := asTup_sq hd i
        refine ⟨b, vs, rfl, .inr ⟨by rw [g.hK]; exact sqT_out h1, q2 (numT ds, none) M1 ?_ φ1 H1 (Step.refl a1.m) _ (by rw [g.hK]; exact wk_enumT Z.K h1 h2)⟩⟩
        split
        · exact absurd rfl (hno _)
        · rw [hd]
theorem wk_zipT (K : PySem.W.Frag) {a b : Addr} {ds es : List D} {vs ws : List V} (h : SqT K (out φ0 H0) a vs) (h' : SqT K (out φ0 H0) b ws) (i : Iss Z φ0 (out φ0 H0) ds vs) (i' : Iss Z φ0 (out φ0 H0) es ws) : WkD Z φ0 H0 (RZ.ItzT K a b) (zipT ds es) none := by
  have hq : ∀ φ M H, Lat Z φ0 H0 φ M H → SqT K H a vs ∧ SqT K H b ws := fun φ M H l => ⟨sqT_out (ExtN.sqT l.ext h), sqT_out (ExtN.sqT l.ext h')⟩
  have l1 := i.length
  have l2 := i'.length
  refine ⟨fun j φ M H l _ hj => ?_, fun φ M H l _ => ?_, fun j φ M H x H' l _ hj y => ?_⟩
  · rw [zipT_len] at hj
    exact ⟨vs, ws, vs[j]'(by omega), ws[j]'(by omega), (hq φ M H l).1, (hq φ M H l).2, List.getElem?_eq_getElem _, List.getElem?_eq_getElem _⟩
  · refine ⟨vs, ws, (hq φ M H l).1, (hq φ M H l).2, ?_⟩
    rw [zipT_len]
    omega
  · obtain ⟨T, x0, y0, rfl, hT, rfl, hx, hy⟩ := y
    rw [zipT_len] at hj
    obtain ⟨v, e1, e2⟩ := (l.iss i).get (List.getElem?_eq_getElem (show j < ds.length by omega))
    obtain ⟨v', e3, e4⟩ := (l.iss i').get (List.getElem?_eq_getElem (show j < es.length by omega))
    rw [hx vs (hq φ M H l).1] at e1
    rw [hy ws (hq φ M H l).2] at e3
    cases e1
    cases e3
    obtain ⟨s, k⟩ := key2 l.m hT e2 e4
    refine ⟨s, fun d hd => ?_⟩
    obtain ⟨z, z', k1, k2, rfl⟩ := zipT_get hd
    rw [List.getElem?_eq_getElem (show j < ds.length by omega)] at k1
    rw [List.getElem?_eq_getElem (show j < es.length by omega)] at k2
    cases k1
    cases k2
    exact k
theorem wk_zipL (K : PySem.W.Frag) {a b : Addr} {ds es : List D} {vs ws : List V} (h : out φ0 H0 a = some (.lst vs)) (h' : out φ0 H0 b = some (.lst ws)) (i : Iss Z φ0 (out φ0 H0) ds vs) (i' : Iss Z φ0 (out φ0 H0) es ws) : WkD Z φ0 H0 (Itz K a b) (zipT ds es) none := by
  have hq : ∀ φ M H, Lat Z φ0 H0 φ M H → SqL K H a vs ∧ SqL K H b ws := fun φ M H l => ⟨SqL.of (out_some (l.out h fun ps z => by cases z)).2, SqL.of (out_some (l.out h' fun ps z => by cases z)).2⟩
  have l1 := i.length
  have l2 := i'.length
  refine ⟨fun j φ M H l _ hj => ?_, fun φ M H l _ => ?_, fun j φ M H x H' l _ hj y => ?_⟩
  · rw [zipT_len] at hj
    exact ⟨vs, ws, vs[j]'(by omega), ws[j]'(by omega), (hq φ M H l).1, (hq φ M H l).2, List.getElem?_eq_getElem _, List.getElem?_eq_getElem _⟩
  · refine ⟨vs, ws, (hq φ M H l).1, (hq φ M H l).2, ?_⟩
    rw [zipT_len]
    omega
  · obtain ⟨T, x0, y0, rfl, hT, rfl, hx, hy⟩ := y
    rw [zipT_len] at hj
    obtain ⟨v, e1, e2⟩ := (l.iss i).get (List.getElem?_eq_getElem (show j < ds.length by omega))
    obtain ⟨v', e3, e4⟩ := (l.iss i').get (List.getElem?_eq_getElem (show j < es.length by omega))
    rw [hx vs (hq φ M H l).1] at e1
    rw [hy ws (hq φ M H l).2] at e3
    cases e1
    cases e3
    obtain ⟨s, k⟩ := key2 l.m hT e2 e4
    refine ⟨s, fun d hd => ?_⟩
    obtain ⟨z, z', k1, k2, rfl⟩ := zipT_get hd
    rw [List.getElem?_eq_getElem (show j < ds.length by omega)] at k1
    rw [List.getElem?_eq_getElem (show j < es.length by omega)] at k2
    cases k1
    cases k2
    exact k
theorem i_zip {elts : List Expr} {kk : Nat} (g : Gd Z X) (hg : Gl X "zip") (hm : X.mg "zip" = none) (ha : RE Z W P X a A) (hb : RE Z W P X b B) (hs : starEach [a, b] X.env = (false, eval a X.env) :: starEach [b] X.env) (hs2 : starEach [b] X.env = (false, eval b X.env) :: starEach [] X.env)
    (hpl : (backTo pos (starEach [b] X.env)).any (·.1) = false) : RI Z W P X (.Tuple elts kk tpos) (.Call (.Name "zip" p) [a, b] [] pos) (.zip A B) :=
  PI.imp (RZ.pi_zipA hg hm (pa_cons ha (pa_cons hb pa_nil hs2) hs) hs hpl) fun σ H K h => by
    have e1 : evI P (.zip A B) = fun ρ M => (ev P A ρ M).bind fun x M => (ev P B ρ M).bind fun y M => match x, y with
      | .lst ds, .lst es => .ok (zipT ds es, none) M
      | x, y => match asTup x, asTup y with
        | some ds, some es => .ok (zipT ds es, none) M
        | _, _ => .no := by
      funext ρ M
      rw [evI]
      try rfl
    rw [e1] at h
    refine (tI.bind2 h).mono fun x H1 h1 => h1.mono fun y H2 ⟨φ2, M2, d, e, m2, i, j, q1, q2⟩ => ?_
    split at q1
    · rename_i ds es
      rw [Is] at i j
      obtain ⟨b1, vs, rfl, h1, h2⟩ := i
      obtain ⟨b2, ws, rfl, h3, h4⟩ := j
      exact ⟨b1, b2, vs, ws, rfl, .inl ⟨SqL.of (out_some h1).2, SqL.of (out_some h3).2, q2 _ M2 rfl φ2 H2 (Step.refl m2) _ (wk_zipL X.K h1 h3 h2 h4)⟩⟩
    · rename_i hno
      cases hd : asTup d with
      | none => rw [hd] at q1; exact q1.elim
      | some ds =>
        cases he : asTup e with
        | none => rw [hd, he] at q1; exact q1.elim
        | some es =>
          obtain ⟨b1, vs, rfl, h1, h2⟩ := asTup_sq hd i
          obtain ⟨b2, ws, rfl, h3, h4⟩ := asTup_sq he j
          refine ⟨b1, b2, vs, ws, rfl, .inr ⟨by rw [g.hK]; exact sqT_out h1, by rw [g.hK]; exact sqT_out h3, q2 (zipT ds es, none) M2 ?_ φ2 H2 (Step.refl m2) _ (by rw [g.hK]; exact wk_zipT Z.K h1 h3 h2 h4)⟩⟩
          split
          · exact absurd rfl (hno _ _ rfl)
          · rw [hd, he]
end
end DL
end
section
set_option Elab.async false
set_option linter.all false
set_option maxRecDepth 100000
set_option autoImplicit false
set_option maxHeartbeats 4000000
/-! DL17: for loops, comprehensions. -/
namespace DL
open PySem PySem.Spec PyProof.Rows L2 LamX

section
variable {Z : Fix} {W : WX} {P : Fns} {u : Under} {X : Cx} {φ ψ φ' φ0 φ1 : Ph} {H H' H0 H1 : Hp} {M M' : Store} {σ : L2.St} {ρ : Env} {e a b tg iter : Expr} {A B : E} {pos p tpos : Pos} {x : Str}
abbrev RS (Z : Fix) (W : WX) (P : Fns) (u : Under) (X : Cx) (s : Stmt) (S : S) : Prop := PS X s (tS Z W (exec P u S))
abbrev RSs (Z : Fix) (W : WX) (P : Fns) (u : Under) (X : Cx) (s : List Stmt) (S : Ss) : Prop := PSs X s (tS Z W (execs P u S))
/-- what the end of a turn asks -/
theorem postS.turn {r : F} {k : Env → Store → F} {E : Ends} (h : postS Z W φ H (r.turn k) E) :
    postS Z W φ H r { E with nx := fun σ H' => ∃ φ' ρ M, Step Z φ H φ' H' M ∧ RepE Z φ' (out φ' H') ρ σ ∧ postS Z W φ' H' (k ρ M) E, ct := fun σ H' => ∃ φ' ρ M, Step Z φ H φ' H' M ∧ RepE Z φ' (out φ' H') ρ σ ∧ postS Z W φ' H' (k ρ M) E, bk := E.nx } := by
  cases r with
  | nx ρ M => exact fun φ' σ' H' s e => ⟨φ', ρ, M, s, e, postS.rebase s h⟩
  | ct ρ M => exact fun φ' σ' H' s e => ⟨φ', ρ, M, s, e, postS.rebase s h⟩
  | bk ρ M => exact h
  | rt d M => exact h
  | ex c ds ρ M => exact h
  | no => exact h
theorem postS.mono {r : F} {E E' : Ends} (h : postS Z W φ H r E) (h1 : ∀ σ H, E.nx σ H → E'.nx σ H) (h2 : ∀ σ H, E.bk σ H → E'.bk σ H) (h3 : ∀ σ H, E.ct σ H → E'.ct σ H) (h4 : ∀ v H, E.rt v H → E'.rt v H) : postS Z W φ H r E' := by
  cases r with
  | nx ρ M => exact fun φ' σ' H' s e => h1 _ _ (h φ' σ' H' s e)
  | ct ρ M => exact fun φ' σ' H' s e => h3 _ _ (h φ' σ' H' s e)
  | bk ρ M => exact fun φ' σ' H' s e => h2 _ _ (h φ' σ' H' s e)
  | rt d M => exact fun φ' v H' s e => h4 _ _ (h φ' v H' s e)
  | ex c ds ρ M => exact h
  | no => exact h
theorem loop_cons {g : Option Nat} {all : List D} {f : D → Env → Store → F} {x : D} {xs : List D} {ρ : Env} {M : Store} (h : guard g all M) : loop g all f (x :: xs) ρ M = (f x ρ M).turn fun ρ' M' => loop g all f xs ρ' M' := by
  rw [loop, if_pos h]
theorem loop_nil {g : Option Nat} {all : List D} {f : D → Env → Store → F} {ρ : Env} {M : Store} (h : guard g all M) : loop g all f [] ρ M = .nx ρ M := by
  rw [loop, if_pos h]
theorem loop_no {g : Option Nat} {all : List D} {f : D → Env → Store → F} {xs : List D} {ρ : Env} {M : Store} (h : ¬ guard g all M) : loop g all f xs ρ M = .no := by
  cases xs <;> rw [loop, if_neg h]
theorem s_for {body : List Stmt} {t : T} {it : I} {b : Ss} (hp : PassesOwn (model X.prog X.w) X.A X.env X.xe) (g : Gd Z X) (hi : RI Z W P X tg iter it) (hg : RG Z X tg t) (hb : RSs Z W P u X body b)
    (hs : ∀ x, foldedSetIterable iter X.env x = pure x) : RS Z W P u X (.For tg iter body [] pos) (.for_ t it b) :=
  PS.imp (ps_for hp g.calm hi hg hb hs) fun E σ H ⟨φ, ρ, M, a, q⟩ => by
    rw [exec] at q
    refine ⟨φ, ρ, M, a, ?_, fun w M1 ew φ1 H1 s1 J wk => ?_⟩
    · cases e : evI P it ρ M with
      | ok w M1 => exact fun _ _ _ _ _ => True.intro
      | ex c ds M1 =>
        rw [e] at q
        exact fun φ1 cls dx H1 s i => q φ1 cls dx σ H1 s (s.repE a.e) i
      | no =>
        rw [e] at q
        exact q.elim
    · rw [ew] at q
      obtain ⟨ds, gd⟩ := w
      have q := postS.rebase s1 q
      simp only at q wk
      let f : D → Env → Store → F := fun x ρ M => match T.put t x ρ with
        | some ρ' => execs P u b ρ' M
        | none => .no
      have q : postS Z W φ1 H1 (loop gd ds f ds ρ M1) E := q
      let Pv : Nat → L2.St → Hp → Prop := fun i σ H => ∃ φ ρ M, RepE Z φ (out φ H) ρ σ ∧ Lat Z φ1 H1 φ M H ∧ postS Z W φ H (loop gd ds f (ds.drop i) ρ M) E
      let Gg : Hp → Prop := fun H => ∃ φ M, Lat Z φ1 H1 φ M H ∧ guard gd ds M
      let Y : Nat → Hp → V → Hp → Prop := fun i H x H' => ∀ φ M, Lat Z φ1 H1 φ M H → guard gd ds M → Step Z φ H φ H' M ∧ ∀ d, ds[i]? = some d → Is Z φ (out φ H') d x
      have wlk : Walk J ds.length Gg Y := ⟨fun i H hi ⟨φ, M, l, g⟩ => wk.goes i φ M H l g hi, fun H ⟨φ, M, l, g⟩ => wk.stops φ M H l g, fun i H x H' hi _ y φ M l g => wk.yields i φ M H x H' l g hi y⟩
      have gOf : ∀ {φ ρ M H i}, postS Z W φ H (loop gd ds f (ds.drop i) ρ M) E → guard gd ds M := fun {φ ρ M H i} q => by
        by_cases h : guard gd ds M
        · exact h
        · rw [loop_no h] at q
          exact q.elim
      refine for_it wlk Pv ⟨φ1, ρ, M1, s1.repE a.e, Lat.refl s1.m, by simpa using q⟩ ?_ ?_ ?_
      · rintro i σ H _ ⟨φ, ρ, M, re, l, q⟩
        exact ⟨φ, M, l, gOf q⟩
      · rintro i x σ H H' hi ⟨φ, ρ, M, re, l, q⟩ y
        have gg := gOf q
        obtain ⟨s2, yi⟩ := y φ M l gg
        have hd : ds.drop i = ds[i] :: ds.drop (i + 1) := by rw [List.drop_eq_getElem_cons hi]
        rw [hd, loop_cons gg] at q
        have hx := yi ds[i] (List.getElem?_eq_getElem hi)
        have q := postS.rebase s2 q
        have a2 : At Z φ ρ M σ H' := s2.at_ ⟨l.m, re⟩
        cases ep : T.put t ds[i] ρ with
        | none =>
          have : f ds[i] ρ M = .no := by show (match T.put t ds[i] ρ with | some ρ' => execs P u b ρ' M | none => F.no) = _; rw [ep]
          rw [this] at q
          exact q.elim
        | some ρ' =>
          have : f ds[i] ρ M = execs P u b ρ' M := by show (match T.put t ds[i] ρ with | some ρ' => execs P u b ρ' M | none => F.no) = _; rw [ep]
          rw [this] at q
          refine ⟨φ, ρ, M, ds[i], ρ', a2, hx, ep, fun σ' a3 _ => ⟨φ, ρ', M, a3, ?_⟩⟩
          exact (postS.turn q).mono (fun σ5 H5 ⟨φ5, ρ5, M5, s5, re5, q5⟩ => ⟨φ5, ρ5, M5, re5, (l.step s2).step s5, q5⟩) (fun _ _ h => h) (fun σ5 H5 ⟨φ5, ρ5, M5, s5, re5, q5⟩ => ⟨φ5, ρ5, M5, re5, (l.step s2).step s5, q5⟩) fun _ _ h => h
      · rintro σ H ⟨φ, ρ, M, re, l, q⟩
        have gg := gOf q
        rw [List.drop_length, loop_nil gg] at q
        exact q φ σ H (Step.refl l.m) re
end
end DL
end
section
set_option Elab.async false
set_option linter.all false
set_option maxRecDepth 100000
set_option autoImplicit false
set_option maxHeartbeats 4000000
/-! DL18: list comprehensions. -/
namespace DL
open PySem PySem.Spec PyProof.Rows L2 LamX

def WF : WX := fun _ _ _ _ => False
section
variable {Z : Fix} {W : WX} {P : Fns} {u : Under} {X : Cx} {φ ψ φ' φ0 φ1 : Ph} {G H H' H0 H1 : Hp} {M M' : Store} {σ : L2.St} {ρ : Env} {e a b tg iter elt : Expr} {A B : E} {pos p tpos : Pos} {x : Str}
theorem upd_upd {a : Addr} {x y : HO} : upd (upd H a x) a y = upd H a y := by
  funext b
  by_cases h : b = a
  · subst h
    rw [upd_same, upd_same]
  · rw [upd_ne h, upd_ne h, upd_ne h]
theorem upd_eta {a : Addr} {x : HO} (h : H a = some x) : upd H a x = H := by
  funext b
  by_cases e : b = a
  · subst e
    rw [upd_same, h]
  · rw [upd_ne e]
theorem wipe_get (j : Nat) : ∀ vs : List Nat, (wipe σ vs)[j]? = if j ∈ vs then (σ[j]?).map (fun _ => none) else σ[j]?
  | [] => by simp [wipe]
  | i :: r => by
    unfold wipe
    have ih := wipe_get j r
    by_cases h : i = j
    · subst h
      rw [List.getElem?_set]
      simp only [if_true, List.mem_cons, true_or]
      have hl : (wipe σ r).length = σ.length := wipe_length σ r
      by_cases hj : i < σ.length
      · rw [if_pos (by rw [hl]; exact hj), List.getElem?_eq_getElem hj]
        rfl
      · rw [if_neg (by rw [hl]; exact hj), List.getElem?_eq_none (by omega)]
        rfl
    · rw [List.getElem?_set_ne h, ih]
      simp only [List.mem_cons, Ne.symm h, false_or]
theorem wipe_wipe (vs : List Nat) : wipe (wipe σ vs) vs = wipe σ vs := by
  apply List.ext_getElem?
  intro j
  rw [wipe_get, wipe_get]
  by_cases h : j ∈ vs
  · rw [if_pos h, if_pos h]
    cases σ[j]? <;> rfl
  · rw [if_neg h]
theorem repE_wipe (h : RepE Z φ G ρ σ) : ∀ own : List Nat, RepE Z φ G (wipeE ρ own) (wipe σ own)
  | [] => h
  | i :: r => by
    unfold wipeE wipe
    exact repE_none (repE_wipe h r)
theorem RepM.rehide {D : Addr} {ho : HO} (m : RepM Z (φ.hide D) M H) (nt : NTb ho := by trivial) : RepM Z (φ.hide D) M (upd H D ho) := by
  obtain ⟨np, nd⟩ := hide_nd m
  have o : DL.out (φ.hide D) (upd H D ho) = DL.out (φ.hide D) H := out_set (mem_hide.mpr (.inl rfl))
  refine ⟨m.len, m.nd, fun a ha => ?_, fun n v e => ?_, by rw [o]; exact m.tab⟩
  · by_cases h : a = D
    · subst h
      exact ⟨ho, upd_same, nt⟩
    · obtain ⟨v, e, nt⟩ := m.hid a ha
      exact ⟨v, by rw [upd_ne h]; exact e, nt⟩
  · obtain ⟨a, h2, e1, e2, e3⟩ := m.at_ n v e
    refine ⟨a, h2, e1, ?_, by rw [o]; exact e3⟩
    rw [upd_ne fun z => np (by rw [← z]; exact List.mem_append_right _ (List.mem_of_getElem? e1))]
    exact e2
theorem Lat.repE (l : Lat Z φ1 H1 φ M H) (h : RepE Z φ1 (DL.out φ1 H1) ρ σ) : RepE Z φ (DL.out φ H) ρ σ := by
  obtain ⟨ν, e⟩ := l.pre
  exact ⟨h.1, fun i d ed => let ⟨v, h1, h2⟩ := h.2 i d ed; ⟨v, h1, Is.hs (φ := φ1.add ν) (ψ := φ) e d v (Is.mono l.ext d v h2)⟩⟩
theorem lat_hide {D : Addr} {ho : HO} (hD : H1 D = none) (s : Step Z φ1 H1 ψ (upd H D ho) M) (m : RepM Z (ψ.hide D) M H) : Lat Z φ1 H1 (ψ.hide D) M H := by
  obtain ⟨ν, e⟩ := s.pre
  refine ⟨m, fun b v eb t => ?_, ν, by rw [e]; rfl⟩
  have hb : b ≠ D := ne_of_none (out_some eb).2 hD
  obtain ⟨k1, k2⟩ := out_some (s.ext b v eb t)
  rw [upd_ne hb] at k2
  exact out_of (fun z => (mem_hide.mp z).elim hb k1) k2
theorem comp_cons {g : Option Nat} {all : List D} {f : D → Store → R (Option D)} {x : D} {xs acc : List D} (h : guard g all M) (hl : acc.length < line) :
    comp g all f (x :: xs) acc M = (noEx (f x M)).bind fun o M' => (match o with
      | some d => comp g all f xs (acc ++ [d]) M'
      | none => comp g all f xs acc M') := by
  rw [comp, if_pos ⟨h, hl⟩] <;> rfl
theorem comp_nil {g : Option Nat} {all : List D} {f : D → Store → R (Option D)} {acc : List D} (h : guard g all M) : comp g all f [] acc M = .ok acc M := by
  rw [comp, if_pos h]
theorem comp_ok {g : Option Nat} {all : List D} {f : D → Store → R (Option D)} {xs acc : List D} (h : comp g all f xs acc M ≠ .no) : guard g all M ∧ (xs ≠ [] → acc.length < line) := by
  cases xs with
  | nil =>
    refine ⟨?_, fun z => absurd rfl z⟩
    by_cases hg : guard g all M
    · exact hg
    · rw [comp, if_neg hg] at h
      exact absurd rfl h
  | cons x xs =>
    by_cases hg : guard g all M ∧ acc.length < line
    · exact ⟨hg.1, fun _ => hg.2⟩
    · rw [comp, if_neg hg] at h
      exact absurd rfl h
theorem noEx_ok {α : Type} {r : R α} (h : noEx r ≠ .no) : ∃ a M, r = .ok a M := by
  cases r with
  | ok a M => exact ⟨a, M, rfl⟩
  | ex c ds M => exact absurd rfl h
  | no => exact absurd rfl h
theorem post_no {α β : Type} {RA : Ph → Hp → α → β → Prop} {r : R α} {Q : β → Hp → Prop} (h : post Z RA W σ φ H r Q) : r ≠ .no := fun e => by
  rw [e] at h
  exact h
theorem bind_no {α β : Type} {r : R α} {f : α → Store → R β} (h : r.bind f ≠ .no) : r ≠ .no := fun e => h (by rw [e]; rfl)
/-- the new list's reading -/
theorem lc_read {mu : Bool} {own : List Nat} {t : T} {it : I} {cd : Es} {E : E} {Q : VK} (hsl : ∀ i ∈ t.slots, i ∈ own) (a : At Z φ ρ M σ H) (q : post Z (Is Z) W σ φ H (ev P (.lc mu own t it cd E) ρ M) Q) :
    tLc (tI Z W (evI P it)) (tG Z t) (tB Z WF (evC P cd)) (tE Z WF (ev P E)) own σ H Q := by
  rw [ev] at q
  refine ⟨φ, ρ, M, a, ?_, fun w M1 ew φ1 H1 s1 J wk Da hD => ?_⟩
  · cases e : evI P it ρ M with
    | ok w M1 => exact fun _ _ _ _ _ => True.intro
    | ex c ds M1 =>
      rw [e] at q
      exact q
    | no =>
      rw [e] at q
      exact q.elim
  · rw [ew] at q
    obtain ⟨ds, gd⟩ := w
    have q := post.rebase s1 q
    simp only [R.bind_ok] at q wk
    let f : D → Store → R (Option D) := fun x M => match T.put t x (wipeE ρ own) with
      | some ρ' => (evC P cd ρ' M).bind fun k M => if k = true then (ev P E ρ' M).bind fun d M => .ok (some d) M else .ok none M
      | none => .no
    let fin : List D → Store → R D := fun ds M => if mu = true then .ok (.ref M.length) (M ++ [.lst ds]) else .ok (.lst ds) M
    have q : post Z (Is Z) W σ φ1 H1 ((comp gd ds f ds [] M1).bind fin) Q := q
    let Pv : Nat → Hp → Prop := fun i H => ∃ ψ M acc accV, ψ.h = φ1.h ∧ (∀ ho, Step Z φ1 H1 ψ (upd H Da ho) M) ∧ RepM Z (ψ.hide Da) M H ∧ H Da = some (.lst accV) ∧ Iss Z ψ (out (ψ.hide Da) H) acc accV ∧
      post Z (Is Z) W σ φ1 H1 ((comp gd ds f (ds.drop i) acc M).bind fin) Q
    let Gg : Hp → Prop := fun H => ∃ φ M, Lat Z φ1 H1 φ M H ∧ guard gd ds M
    let Y : Nat → Hp → V → Hp → Prop := fun i H x H' => ∀ φ M, Lat Z φ1 H1 φ M H → guard gd ds M → Step Z φ H φ H' M ∧ ∀ d, ds[i]? = some d → Is Z φ (out φ H') d x
    have wlk : Walk J ds.length Gg Y := ⟨fun i H hi ⟨φ, M, l, g⟩ => wk.goes i φ M H l g hi, fun H ⟨φ, M, l, g⟩ => wk.stops φ M H l g, fun i H x H' hi _ y φ M l g => wk.yields i φ M H x H' l g hi y⟩
    refine lc_it wlk (Qd := fun H => Q (.ref Da) H) Pv ?_ ?_ ?_ ?_
    · refine ⟨φ1, M1, [], [], rfl, fun ho => ?_, s1.m.hide hD, upd_same, Iss.nil, by simpa using q⟩
      rw [upd_upd]
      exact step_new s1.m hD
    · rintro i H _ ⟨ψ, M, acc, accV, _, st, m, _, _, q⟩
      exact ⟨ψ.hide Da, M, lat_hide (ho := .lst []) hD (st _) m, (comp_ok (bind_no (post_no q))).1⟩
    · rintro i x H H' hi ⟨ψ, M, acc, accV, hh, st, m, hacc, ia, q⟩ y
      have hd : ds.drop i = ds[i] :: ds.drop (i + 1) := by rw [List.drop_eq_getElem_cons hi]
      rw [hd] at q
      obtain ⟨gg, hl⟩ := comp_ok (bind_no (post_no q))
      have hl := hl (List.cons_ne_nil _ _)
      have l := lat_hide (ho := .lst []) hD (st _) m
      obtain ⟨s2, yi⟩ := y _ _ l gg
      have hx := yi ds[i] (List.getElem?_eq_getElem hi)
      rw [comp_cons gg hl] at q
      obtain ⟨o, M4, ef⟩ := noEx_ok (bind_no (bind_no (post_no q)))
      rw [ef] at q
      have q : post Z (Is Z) W σ φ1 H1 ((match o with
        | some d => comp gd ds f (ds.drop (i + 1)) (acc ++ [d]) M4
        | none => comp gd ds f (ds.drop (i + 1)) acc M4).bind fin) Q := q
      have ef : (match T.put t ds[i] (wipeE ρ own) with
        | some ρ' => (evC P cd ρ' M).bind fun k M => if k = true then (ev P E ρ' M).bind fun d M => .ok (some d) M else .ok none M
        | none => .no) = R.ok o M4 := ef
      cases ep : T.put t ds[i] (wipeE ρ own) with
      | none => rw [ep] at ef; cases ef
      | some ρ' =>
        rw [ep] at ef
        simp only at ef
        have re : RepE Z (ψ.hide Da) (out (ψ.hide Da) H) (wipeE ρ own) (wipe σ own) := repE_wipe (l.repE (s1.repE a.e)) own
        have a2 : At Z (ψ.hide Da) (wipeE ρ own) M (wipe σ own) H' := s2.at_ ⟨m, re⟩
        refine ⟨_, _, _, _, _, a2, hx, ep, fun σ2 a3 hw => ⟨(hw own hsl).trans (wipe_wipe own), _, ρ', M, a3, ?_⟩⟩
        cases ek : evC P cd ρ' M with
        | ex c es M5 => rw [ek] at ef; cases ef
        | no => rw [ek] at ef; cases ef
        | ok k M5 =>
          rw [ek] at ef
          simp only [R.bind_ok] at ef
          intro φ5 v5 H5 s5 e5
          cases (show v5 = k from e5)
          have s25 := s2.trans s5
          obtain ⟨_, hφ5⟩ := Step.over (ho2 := .lst []) hD (st (.lst [])) hh s25
          have st5 := fun ho => (Step.over (ho2 := ho) hD (st (.lst [])) hh s25).1
          generalize hψ5 : Ph.mk φ5.s φ1.h = ψ5 at hφ5 st5
          subst hφ5
          cases k with
          | false =>
            simp only [Bool.false_eq_true, if_false] at ef ⊢
            cases ef
            refine ⟨ψ5, M4, acc, accV, by rw [← hψ5], st5, s25.m, ?_, ?_, q⟩
            · rw [s25.hid Da List.mem_cons_self]
              exact hacc
            · have := s25.iss (Iss.hs (φ := ψ) (ψ := ψ.hide Da) rfl _ _ ia)
              exact Iss.hs (φ := ψ5.hide Da) (ψ := ψ5) rfl _ _ this
          | true =>
            simp only [if_true] at ef ⊢
            cases ee : ev P E ρ' M5 with
            | ex c es M6 => rw [ee] at ef; cases ef
            | no => rw [ee] at ef; cases ef
            | ok d M6 =>
              rw [ee] at ef
              cases ef
              refine ⟨_, ρ', M5, s5.at_ a3, ?_⟩
              rw [ee]
              intro φ6 v6 H6 s6 i6
              have s26 := s25.trans s6
              obtain ⟨_, hφ6⟩ := Step.over (ho2 := .lst []) hD (st (.lst [])) hh s26
              have st6 := fun ho => (Step.over (ho2 := ho) hD (st (.lst [])) hh s26).1
              generalize hψ6 : Ph.mk φ6.s φ1.h = ψ6 at hφ6 st6
              subst hφ6
              have ia6 : Iss Z ψ6 (out (ψ6.hide Da) H6) acc accV := Iss.hs (φ := ψ6.hide Da) (ψ := ψ6) rfl _ _ (s26.iss (Iss.hs (φ := ψ) (ψ := ψ.hide Da) rfl _ _ ia))
              refine ⟨accV, by rw [s26.hid Da List.mem_cons_self]; exact hacc, by rw [← ia.length, ← line_eq]; exact hl, ψ6, M4, acc ++ [d], accV ++ [v6], by rw [← hψ6], fun ho => by rw [upd_upd]; exact st6 ho, s26.m.rehide, upd_same, ?_, q⟩
              rw [out_set (mem_hide.mpr (.inl rfl))]
              exact Iss.app ia6 (Iss.cons (Is.hs (φ := ψ6.hide Da) (ψ := ψ6) rfl _ _ i6) Iss.nil)
    · rintro H ⟨ψ, M, acc, accV, hh, st, m, hacc, ia, q⟩
      rw [List.drop_length] at q
      have gg := (comp_ok (bind_no (post_no q))).1
      rw [comp_nil gg] at q
      have q : post Z (Is Z) W σ φ1 H1 (if mu = true then .ok (.ref M.length) (M ++ [.lst acc]) else .ok (.lst acc) M) Q := q
      cases mu with
      | true =>
        simp only [if_true] at q
        have sd := Step.stored (o := .lst acc) (ho' := .lst accV) (st (.lst [])) hD m ⟨accV, rfl, ia⟩
        rw [upd_eta hacc] at sd
        refine q _ _ _ sd ?_
        rw [Is]
        refine ⟨Da, rfl, ?_⟩
        show (ψ.s ++ [Da])[M.length]? = _
        rw [← show ψ.s.length = M.length from m.len, List.getElem?_append_right (Nat.le_refl _), Nat.sub_self]
        rfl
      | false =>
        simp only [Bool.false_eq_true, if_false] at q
        have sd := st (.lst accV)
        rw [upd_eta hacc] at sd
        refine q _ _ _ sd ?_
        rw [Is]
        obtain ⟨np, _⟩ := hide_nd m
        refine ⟨Da, accV, rfl, out_of np hacc, ?_⟩
        have ex : ExtN (out (ψ.hide Da) H) (out ψ H) := by
          have := seen_ext (H := H) (ho := .lst accV) np
          rw [upd_eta hacc] at this
          exact this
        exact Iss.hs (φ := ψ.add []) (ψ := ψ) (by simp [Ph.add]) _ _ (Iss.mono (ν := []) ex _ _ ia)
end
end DL
end
section
set_option Elab.async false
set_option linter.all false
set_option maxRecDepth 100000
set_option autoImplicit false
set_option maxHeartbeats 4000000
/-! DL19: comprehensions as expressions; statements. -/
namespace DL
open PySem PySem.Spec PyProof.Rows L2 LamX

section
variable {Z : Fix} {W : WX} {P : Fns} {u : Under} {X : Cx} {φ ψ φ' φ0 φ1 : Ph} {G H H' H0 H1 : Hp} {M M' : Store} {σ : L2.St} {ρ : Env} {e a b c tg iter elt : Expr} {A B C : E} {pos p tpos spos : Pos} {x : Str}
theorem Gd.blk {s : Shared} {scope : Scope} {env : PySem.Env} {fp : List Addr} (g : Gd Z X) : Gd Z (X.blk s H scope env fp) := ⟨g.hK, g.calm, g.room, g.nd⟩
abbrev RC (Z : Fix) (W : WX) (P : Fns) (X : Cx) (es : List Expr) (E : Es) : Prop := PTs X es (tB Z W (evC P E))
theorem PTs.imp {es : List Expr} {t t' : TT} (h : PTs X es t) (k : ∀ σ H Q, t' σ H Q → t σ H Q) : PTs X es t' := ⟨fun pins s σ H Q I q => h.run pins s σ H Q I (k σ H Q q)⟩
theorem c_nil : RC Z W P X [] .nil := PTs.imp pts_nil fun σ H Q ⟨φ, ρ, M, a, q⟩ => by
  rw [evC] at q
  exact q.fin a.m rfl
theorem c_one (h : RT Z W P X a A) : RC Z W P X [a] (.cons A .nil) := PTs.imp (pts_one h) fun σ H Q ⟨φ, ρ, M, a, q⟩ => by
  rw [evC] at q
  refine ⟨φ, ρ, M, a, ?_⟩
  cases e : evB P A ρ M with
  | ok k M1 =>
    rw [e] at q
    rw [R.bind_ok, evC] at q
    cases k with
    | true => exact q
    | false => exact q
  | ex c ds M1 =>
    rw [e] at q
    exact q
  | no =>
    rw [e] at q
    exact q.elim
theorem r_lc {mu : Bool} {ifs : List Expr} {scope : Scope} {own : List (Str × Nat)} {t : T} {it : I} {cd : Es} (g : Gd Z X) (hi : RI Z W P X tg iter it) (ok : BlkOk X.N X.env.scope scope own) (hsl : ∀ i ∈ t.slots, i ∈ own.map (·.2))
    (hg : ∀ (s : Shared) (H : Hp) (C : Addr) (cl : List (Str × Addr)) (fp : List Addr), RG Z (X.blk s H scope (compEnvC scope cl C X.env) fp) tg t)
    (ht : ∀ (s : Shared) (H : Hp) (C : Addr) (cl : List (Str × Addr)) (fp : List Addr), RC Z WF P (X.blk s H scope (compEnvC scope cl C X.env) fp) ifs cd)
    (he : ∀ (s : Shared) (H : Hp) (C : Addr) (cl : List (Str × Addr)) (fp : List Addr), RE Z WF P (X.blk s H scope (compEnvC scope cl C X.env) fp) elt A)
    (hs : ∀ x, foldedSetIterable iter X.env x = pure x) : RE Z W P X (.ListComp elt [⟨tg, iter, ifs, 0⟩] scope pos) (.lc mu (own.map (·.2)) t it cd A) :=
  PE.imp (pe_lc g.calm g.nd hi ok hg ht he hs) fun σ H Q ⟨φ, ρ, M, a, q⟩ => lc_read hsl a q
theorem s_lc {i : Nat} {mu : Bool} {ifs : List Expr} {scope : Scope} {own : List (Str × Nat)} {t : T} {it : I} {cd : Es} (g : Gd Z X) (hy : X.N[i]? = some x) (hyl : X.env.scope.names.lookup x = some .local)
    (hsw : swapsWith (.ListComp elt [⟨tg, iter, ifs, 0⟩] scope pos) (some (.Name x p)) spos.line X.env = pure true) (hi : RI Z W P X tg iter it) (ok : BlkOk X.N X.env.scope scope own) (hsl : ∀ i ∈ t.slots, i ∈ own.map (·.2))
    (hg : ∀ (s : Shared) (H : Hp) (C : Addr) (cl : List (Str × Addr)) (fp : List Addr), RG Z (X.blk s H scope (compEnvC scope cl C X.env) fp) tg t)
    (ht : ∀ (s : Shared) (H : Hp) (C : Addr) (cl : List (Str × Addr)) (fp : List Addr), RC Z WF P (X.blk s H scope (compEnvC scope cl C X.env) fp) ifs cd)
    (he : ∀ (s : Shared) (H : Hp) (C : Addr) (cl : List (Str × Addr)) (fp : List Addr), RE Z WF P (X.blk s H scope (compEnvC scope cl C X.env) fp) elt A)
    (hs : ∀ x, foldedSetIterable iter X.env x = pure x) : RS Z W P u X (.Assign [.Name x p] (.ListComp elt [⟨tg, iter, ifs, 0⟩] scope pos) spos) (.asg (.nm i) (.lc mu (own.map (·.2)) t it cd A)) :=
  PS.imp (ps_setLc g.calm g.nd hy hyl hsw hi ok hg ht he hs) fun E σ H ⟨φ, ρ, M, a, q⟩ => by
    rw [exec] at q
    refine lc_read (W := W) hsl a (mu := mu) ?_
    refine (post.toF (RA := Is Z) a.e q).mono fun x H1 ⟨φ1, M1, d, s1, i1, q1⟩ => ?_
    rw [T.put] at q1
    exact q1 φ1 _ H1 (Step.refl s1.m) (repE_set (s1.repE a.e) i1)
/-! ### statements -/
theorem ss_nil : RSs Z W P u X [] .nil := PSs.imp pss_nil fun E σ H ⟨φ, ρ, M, a, q⟩ => by
  rw [execs] at q
  exact q φ σ H (Step.refl a.m) a.e
theorem postS.seq {r : F} {k : Env → Store → F} {E : Ends} (h : postS Z W φ H (r.seq k) E) :
    postS Z W φ H r { E with nx := fun σ H' => ∃ φ' ρ M, Step Z φ H φ' H' M ∧ RepE Z φ' (out φ' H') ρ σ ∧ postS Z W φ' H' (k ρ M) E } := by
  cases r with
  | nx ρ M => exact fun φ' σ' H' s e => ⟨φ', ρ, M, s, e, postS.rebase s h⟩
  | ct ρ M => exact h
  | bk ρ M => exact h
  | rt d M => exact h
  | ex c ds ρ M => exact h
  | no => exact h
theorem ss_cons {st : Stmt} {rest : List Stmt} {S : S} {Ss : Ss} (h1 : RS Z W P u X st S) (h2 : RSs Z W P u X rest Ss) : RSs Z W P u X (st :: rest) (.cons S Ss) :=
  PSs.imp (pss_cons h1 h2) fun E σ H ⟨φ, ρ, M, a, q⟩ => by
    rw [execs] at q
    refine ⟨φ, ρ, M, a, (postS.seq q).mono (fun σ5 H5 ⟨φ5, ρ5, M5, s5, re5, q5⟩ => ⟨φ5, ρ5, M5, ⟨s5.m, re5⟩, q5⟩) (fun _ _ h => h) (fun _ _ h => h) fun _ _ h => h⟩
theorem s_pass : RS Z W P u X (.Pass pos) .pass := PS.imp ps_pass fun E σ H ⟨φ, ρ, M, a, q⟩ => by
  rw [exec] at q
  exact q φ σ H (Step.refl a.m) a.e
theorem s_brk : RS Z W P u X (.Break pos) .brk := PS.imp ps_break fun E σ H ⟨φ, ρ, M, a, q⟩ => by
  rw [exec] at q
  exact q φ σ H (Step.refl a.m) a.e
theorem s_cnt : RS Z W P u X (.Continue pos) .cnt := PS.imp ps_continue fun E σ H ⟨φ, ρ, M, a, q⟩ => by
  rw [exec] at q
  exact q φ σ H (Step.refl a.m) a.e
theorem s_ret (h : RE Z W P X e A) : RS Z W P u X (.Return (some e) pos) (.ret A) := PS.imp (ps_ret h) fun E σ H ⟨φ, ρ, M, a, q⟩ => by
  rw [exec] at q
  exact (tE.toF a q).mono fun x H1 ⟨φ1, M1, d, a1, s1, i, q1⟩ => q1 φ1 x H1 (Step.refl a1.m) i
theorem s_retN : RS Z W P u X (.Return none pos) .retN := PS.imp ps_retN fun E σ H ⟨φ, ρ, M, a, q⟩ => by
  rw [exec] at q
  exact q φ _ H (Step.refl a.m) (by rw [Is])
theorem s_ex (h : RE Z W P X e A) (hs : swapsWith e none pos.line X.env = pure false) : RS Z W P u X (.Expr e pos) (.ex A) := PS.imp (ps_expr h hs) fun E σ H ⟨φ, ρ, M, a, q⟩ => by
  rw [exec] at q
  exact (tE.toF a q).mono fun x H1 ⟨φ1, M1, d, a1, s1, i, q1⟩ => q1 φ1 σ H1 (Step.refl a1.m) a1.e
theorem s_if {st su : List Stmt} {S1 S2 : Ss} (hc : RT Z W P X c C) (h1 : RSs Z W P u X st S1) (h2 : RSs Z W P u X su S2) : RS Z W P u X (.If c st su pos) (.cond C S1 S2) := PS.imp (ps_if hc h1 h2) fun E σ H ⟨φ, ρ, M, a, q⟩ => by
  rw [exec] at q
  refine (tB.toF a q).mono fun k H1 ⟨φ1, M1, a1, s1, q1⟩ => ?_
  cases k with
  | true => exact ⟨φ1, ρ, M1, a1, q1⟩
  | false => exact ⟨φ1, ρ, M1, a1, q1⟩
theorem s_asg {t : T} (he : RE Z W P X e A) (hg : RG Z X tg t) (hs : swapsWithSole [tg] e pos.line X.env = pure false) (hw : swappedStores [tg] e X.env = pure none) (h1 : (assignEach [tg] X.env).map (·.2) = [assign tg X.env]) :
    RS Z W P u X (.Assign [tg] e pos) (.asg t A) := PS.imp (ps_asg he hg hs hw h1) fun E σ H ⟨φ, ρ, M, a, q⟩ => by
  rw [exec] at q
  refine (tE.toF a q).mono fun x H1 ⟨φ1, M1, d, a1, s1, i, q1⟩ => ?_
  cases ep : T.put t d ρ with
  | none => rw [ep] at q1; exact q1.elim
  | some ρ' =>
    rw [ep] at q1
    exact ⟨φ1, ρ, M1, d, ρ', a1, i, ep, fun σ' a' _ => q1 φ1 σ' H1 (Step.refl a'.m) a'.e⟩
theorem s_par2 {i j : Nat} {y : Str} {px py pt pt2 : Pos} {kt k2 : Nat} {A : Es} (g : Gd Z X) (hi : X.N[i]? = some x) (hj : X.N[j]? = some y) (hij : i ≠ j)
    (hx : X.env.scope.names.lookup x = some .local) (hy : X.env.scope.names.lookup y = some .local) (ha : RA Z W P X [a, b] A)
    (hw : swappedStores [.Tuple [.Name x px, .Name y py] kt pt] (.Tuple [a, b] k2 pt2) X.env = pure (some [x, y]))
    (hs : swapsWithSole [.Tuple [.Name x px, .Name y py] kt pt] (.Tuple [a, b] k2 pt2) pos.line X.env = pure false) :
    RS Z W P u X (.Assign [.Tuple [.Name x px, .Name y py] kt pt] (.Tuple [a, b] k2 pt2) pos) (.par [i, j] A) := PS.imp (ps_par g.calm g.nd hi hj hij hx hy ha hw hs) fun E σ H ⟨φ, ρ, M, a, q⟩ => by
  rw [exec] at q
  refine (tL.toF a q).mono fun xs H1 ⟨φ1, M1, ds, a1, s1, i1, q1⟩ => ?_
  cases ep : setAll [i, j] ds ρ with
  | none => rw [ep] at q1; exact q1.elim
  | some ρ' =>
    rw [ep] at q1
    obtain ⟨d1, d2, rfl, rfl⟩ : ∃ d1 d2, ds = [d1, d2] ∧ ρ' = (ρ.set i (some d1)).set j (some d2) := by
      match ds, ep with
      | [d1, d2], ep => exact ⟨d1, d2, rfl, by simp only [setAll] at ep; exact (Option.some.inj ep).symm⟩
      | [], ep => simp [setAll] at ep
      | [_], ep => simp [setAll] at ep
      | _ :: _ :: _ :: _, ep => simp [setAll] at ep
    obtain ⟨v1, r1, rfl, j1, i2⟩ := i1.inv
    obtain ⟨v2, r2, rfl, j2, i3⟩ := i2.inv
    cases i3.inv0
    exact ⟨v1, v2, rfl, q1 φ1 _ H1 (Step.refl a1.m) (repE_set (repE_set a1.e j1) j2)⟩
theorem s_par3 {i j l : Nat} {y z : Str} {px py pz pt pt2 : Pos} {kt k2 : Nat} {A : Es} (g : Gd Z X) (hi : X.N[i]? = some x) (hj : X.N[j]? = some y) (hl : X.N[l]? = some z) (hij : i ≠ j) (hil : i ≠ l) (hjl : j ≠ l)
    (hx : X.env.scope.names.lookup x = some .local) (hy : X.env.scope.names.lookup y = some .local) (hz : X.env.scope.names.lookup z = some .local) (ha : RA Z W P X [a, b, c] A)
    (hw : swappedStores [.Tuple [.Name x px, .Name y py, .Name z pz] kt pt] (.Tuple [a, b, c] k2 pt2) X.env = pure (some [x, y, z]))
    (hs : swapsWithSole [.Tuple [.Name x px, .Name y py, .Name z pz] kt pt] (.Tuple [a, b, c] k2 pt2) pos.line X.env = pure false) :
    RS Z W P u X (.Assign [.Tuple [.Name x px, .Name y py, .Name z pz] kt pt] (.Tuple [a, b, c] k2 pt2) pos) (.par [i, j, l] A) := PS.imp (ps_par3 g.calm g.nd hi hj hl hij hil hjl hx hy hz ha hw hs) fun E σ H ⟨φ, ρ, M, a, q⟩ => by
  rw [exec] at q
  refine (tL.toF a q).mono fun xs H1 ⟨φ1, M1, ds, a1, s1, i1, q1⟩ => ?_
  cases ep : setAll [i, j, l] ds ρ with
  | none => rw [ep] at q1; exact q1.elim
  | some ρ' =>
    rw [ep] at q1
    obtain ⟨d1, d2, d3, rfl, rfl⟩ : ∃ d1 d2 d3, ds = [d1, d2, d3] ∧ ρ' = ((ρ.set i (some d1)).set j (some d2)).set l (some d3) := by
      match ds, ep with
      | [d1, d2, d3], ep => exact ⟨d1, d2, d3, rfl, by simp only [setAll] at ep; exact (Option.some.inj ep).symm⟩
      | [], ep => simp [setAll] at ep
      | [_], ep => simp [setAll] at ep
      | [_, _], ep => simp [setAll] at ep
      | _ :: _ :: _ :: _ :: _, ep => simp [setAll] at ep
    obtain ⟨v1, r1, rfl, j1, i2⟩ := i1.inv
    obtain ⟨v2, r2, rfl, j2, i3⟩ := i2.inv
    obtain ⟨v3, r3, rfl, j3, i4⟩ := i3.inv
    cases i4.inv0
    exact ⟨v1, v2, v3, rfl, q1 φ1 _ H1 (Step.refl a1.m) (repE_set (repE_set (repE_set a1.e j1) j2) j3)⟩
end
end DL
end
section
set_option Elab.async false
set_option linter.all false
set_option maxRecDepth 100000
set_option autoImplicit false
set_option maxHeartbeats 4000000
/-! DL20: slices, methods, puts. -/
namespace DL
open PySem PySem.Spec PyProof.Rows L2 LamX

section
variable {Z : Fix} {W : WX} {P : Fns} {u : Under} {X : Cx} {φ ψ φ' φ0 φ1 : Ph} {G H H' H0 H1 : Hp} {M M' : Store} {σ : L2.St} {ρ : Env} {e a b c o i : Expr} {A B C E : E} {pos p p2 p3 tpos spos apos cpos : Pos} {x : Str}
/-! ### a[lo:hi] -/
def IsP (_ : Ph) (_ : Hp) (b : Option Int) (v : Option Int) : Prop := v = b
def tO (Z : Fix) (W : WX) (f : Env → Store → R (Option Int)) : TO := fun σ H Q => ∃ φ ρ M, At Z φ ρ M σ H ∧ post Z IsP W σ φ H (f ρ M) Q
noncomputable def fPart (P : Fns) (pl : Bool) (E : DL.E) : Env → Store → R (Option Int) := fun ρ M => (ev P E ρ M).bind fun l M => ofO (partB pl l) M
abbrev RO (Z : Fix) (W : WX) (P : Fns) (X : Cx) (o : Option Expr) (pl : Bool) (E : DL.E) : Prop := PO X o (tO Z W (fPart P pl E))
theorem PO.imp {o : Option Expr} {t t' : TO} (h : PO X o t) (k : ∀ σ H Q, t' σ H Q → t σ H Q) : PO X o t' := ⟨fun pins s σ H Q I q => h.run pins s σ H Q I (k σ H Q q)⟩
theorem o_none : RO Z W P X none false (.c .non) := PO.imp po_none fun σ H Q ⟨φ, ρ, M, a, q⟩ => by
  unfold fPart at q
  rw [ev] at q
  exact q.fin a.m rfl
theorem o_some (h : RE Z W P X e A) : RO Z W P X (some e) true A := PO.imp (po_some h) fun σ H Q ⟨φ, ρ, M, a, q⟩ => by
  unfold fPart at q
  refine (tE.bind a q).mono fun x H1 ⟨φ1, M1, d, a1, s1, i, q1⟩ => ?_
  cases d with
  | int k => exact ⟨k, is_int i, q1.fin a1.m rfl⟩
  | _ => exact q1.elim
theorem tO.bind {α' β' : Type} {RB : Ph → Hp → α' → β' → Prop} {fa : Env → Store → R (Option Int)} {f : Option Int → Store → R α'} {Q : β' → Hp → Prop} (a : At Z φ ρ M σ H) (h : post Z RB W σ φ H ((fa ρ M).bind f) Q) :
    tO Z W fa σ H fun x H1 => ∃ φ1 M1, At Z φ1 ρ M1 σ H1 ∧ Step Z φ H φ1 H1 M1 ∧ post Z RB W σ φ1 H1 (f x M1) Q :=
  ⟨φ, ρ, M, a, (post.bind (RA := IsP) h).mono fun x H1 ⟨φ1, M1, d, s, i, q⟩ => by
    cases (show x = d from i)
    exact ⟨φ1, M1, s.at_ a, s, q⟩⟩
theorem tO.mono {f : Env → Store → R (Option Int)} {Q Q' : Option Int → Hp → Prop} (h : tO Z W f σ H Q) (k : ∀ x H1, Q x H1 → Q' x H1) : tO Z W f σ H Q' := by
  obtain ⟨φ, ρ, M, a, q⟩ := h
  exact ⟨φ, ρ, M, a, q.mono k⟩
theorem r_sl {lo hi : Option Expr} {pl ph : Bool} (g : Gd Z X) (ha : RE Z W P X a A) (hl : RO Z W P X lo pl B) (hh : RO Z W P X hi ph C) : RE Z W P X (.Subscript a (.Slice lo hi none p2) pos) (.sl pl ph A B C) :=
  PE.imp (pe_slice (sl_all g.hK) ha hl hh) fun σ H Q ⟨φ, ρ, M, a, q⟩ => by
    rw [ev] at q
    exact (tE.bind a q).mono fun x H1 ⟨φ1, M1, d, a1, s1, i1, q1⟩ => (tO.bind (fa := fPart P pl B) a1 q1).mono fun l H2 ⟨φ2, M2, a2, s2, q2⟩ => (tO.bind (fa := fPart P ph C) a2 q2).mono fun h H3 ⟨φ3, M3, a3, s3, q3⟩ =>
      ⟨φ3, M3, d, W, σ, a3.m, s3.is (s2.is i1), q3⟩
theorem r_back {k : Nat} (ha : RE Z W P X a A) : RE Z W P X (.Subscript a (.Slice none none (some (.UnaryOp .USub (.Constant (.int 1) k p) p2)) p3) pos) (.back A) :=
  PE.imp (pe_back ha) fun σ H Q ⟨φ, ρ, M, a, q⟩ => by
    rw [ev] at q
    refine (tE.bind a q).mono fun x H1 ⟨φ1, M1, d, a1, s1, i, q1⟩ => ?_
    unfold backD at q1
    split at q1
    · rename_i ds e
      obtain ⟨b, vs, rfl, h1, h2⟩ := rv_lstK a1.m i e
      exact .inl ⟨b, vs, rfl, h1, q1.newL a1.m h2.rev⟩
    · rename_i t e
      split at q1
      · rename_i hl
        obtain ⟨rfl, s1⟩ := rv_strK a1.m i e
        refine .inr ⟨_, rfl, by rw [cs_len, ← line_eq]; exact hl, ?_⟩
        have q2 := q1.str a1.m (by rw [List.all_reverse]; exact s1)
        simpa using q2
      · exact q1.elim
    · exact q1.elim
/-! ### methods -/
theorem r_join {y : Str} {j : Nat} {ys : List Nat} (g : Gd Z X) (h : (decide (y = cs ys) && ys.all (fun c => decide (c < 1114112))) = true) (he : RE Z W P X e A) (hs : starEach [e] X.env = [(false, eval e X.env)])
    (hbase : attributeBase (.Constant (.str y) j p) "join" X.env (eval (.Constant (.str y) j p) X.env) = eval (.Constant (.str y) j p) X.env)
    (hline : (apos.endLine == pos.line) = true) : RE Z W P X (.Call (.Attribute (.Constant (.str y) j p) "join" apos) [e] [] pos) (.o2 .join (.c (.str ys)) A) := by
  obtain ⟨h1, h2⟩ := Bool.and_eq_true_iff.mp h
  have e1 := of_decide_eq_true h1
  subst e1
  refine PE.imp (pe_m1 F.slot_str_join F.type_str_join (m_join g.hK) pe_str he hs hbase hline) fun σ H Q ⟨φ, ρ, M, a, q⟩ => ?_
  have ec : ev P (.c (.str ys)) = fun _ M => .ok (.str ys) M := by
    funext ρ M
    rw [ev]
  rw [ev_o2, ec] at q
  exact ⟨⟨_, rfl⟩, (tE.bind a q).mono fun y H2 ⟨φ2, M2, e, a2, s2, j, q2⟩ => ⟨y, rfl, φ2, M2, .str ys, e, W, σ, a2.m, by rw [Is]; exact ⟨rfl, h2⟩, j, q2⟩⟩
/-- t.index(e), t a tuple without a dict -/
theorem pe_tix {r : V → List V → Hp → VK → Prop} {to te : TE} (hm : MtR X "tuple.index" r) (ho : PE X o to) (he : PE X e te) (hbase : attributeBase o "index" X.env (eval o X.env) = eval o X.env)
    (hfew : ((backTo cpos (starEach [e] X.env)).all (fun x => !x.1) && (backToKw cpos (keywordEach [] X.env)).all (fun x => x.1.isSome) && decide (([e] : List Expr).length + ([] : List Keyword).length + (if ([] : List Keyword).isEmpty then 0 else 1) < 30)) = true)
    (hline : (apos.endLine == cpos.line) = true) (hs : starEach [e] X.env = (false, eval e X.env) :: starEach [] X.env) (hpl : (backTo cpos (starEach [] X.env)).any (·.1) = false) :
    PE X (.Call (.Attribute o "index" apos) [e] [] cpos) (fun σ H Q => to σ H fun x H1 => (∃ a vs, x = .ref a ∧ TupN X.K H1 a vs) ∧ te σ H1 fun y H2 => r x [y] H2 Q) := by
  refine ⟨fun pins s σ H Q I h => ?_⟩
  refine wpAny_Call_method_late hbase hfew hline rfl (thn (ho.run pins s σ H _ I h) fun v s1 ⟨x, H1, I1, r1, ty, q1⟩ => ?_)
  obtain ⟨a, vs, rfl, tn⟩ := ty
  cases r1
  have ht : s1.TypeIs (.ref a) "tuple" ∧ ∀ b, Value.ref a = .ref b → ∃ ob, s1.heap.get? b = some ob ∧ ob.dict = none := by
    rcases tn with ⟨ob, k1, k2⟩ | ⟨ob, its, n, k1, k2, k3, _⟩
    · have J : ObjOk X.prog X.w H1 s1.heap a (.frz ob (.tup vs)) := I1.hok a _ k1
      obtain ⟨e1, _, _, _, o2, h2, h3, _⟩ := J
      rw [e1] at h2
      cases h2
      exact ⟨⟨ob, e1, h3⟩, fun b eb => by cases eb; exact ⟨ob, e1, k2⟩⟩
    · exact ⟨⟨ob, I1.kIn a ob k1, k2⟩, fun b eb => by cases eb; exact ⟨ob, I1.kIn _ ob k1, k3⟩⟩
  refine ⟨"tuple", "tuple.index", F.plainAttrs_tuple, PySem.F.slot_tuple_index, PySem.F.type_tuple_index, ht.1, ht.2, ?_⟩
  rw [hs]
  refine Calls.callWith_builtin (by show (false || (backTo cpos (starEach [] X.env)).any (·.1)) = false; rw [hpl] <;> rfl) (Calls.evalArgs_plain (Calls.spliced_cons ?_))
  exact thn (he.run pins s1 σ H1 _ I1 q1) fun u s2 ⟨y, H2, I2, r2, q2⟩ => Calls.spliced_nil (hm pins s2 σ H2 (.ref a) [y] (.ref a) [u] Q I2 rfl (.cons r2 .nil) q2)
theorem r_indexT (g : Gd Z X) (ho : RE Z W P X o A) (he : RE Z W P X e B) (hbase : attributeBase o "index" X.env (eval o X.env) = eval o X.env)
    (hfew : ((backTo cpos (starEach [e] X.env)).all (fun x => !x.1) && (backToKw cpos (keywordEach [] X.env)).all (fun x => x.1.isSome) && decide (([e] : List Expr).length + ([] : List Keyword).length + (if ([] : List Keyword).isEmpty then 0 else 1) < 30)) = true)
    (hline : (apos.endLine == cpos.line) = true) (hs : starEach [e] X.env = (false, eval e X.env) :: starEach [] X.env) (hpl : (backTo cpos (starEach [] X.env)).any (·.1) = false) :
    RE Z W P X (.Call (.Attribute o "index" apos) [e] [] cpos) (.idx true A B) :=
  PE.imp (pe_tix (m_indexT g.hK) ho he hbase hfew hline hs hpl) fun σ H Q ⟨φ, ρ, M, a, q⟩ => by
    rw [ev] at q
    refine (tE.bind a q).mono fun x H1 ⟨φ1, M1, d, a1, s1, i, q1⟩ => ?_
    split at q1
    · rename_i hok
      cases d with
      | tup ds =>
        have i' := i
        rw [Is] at i'
        obtain ⟨b, vs, rfl, h1, _⟩ := i'
        refine ⟨⟨b, vs, rfl, ?_⟩, (tE.bind a1 q1).mono fun y H2 ⟨φ2, M2, e, a2, s2, j, q2⟩ => ⟨y, rfl, φ2, M2, .tup ds, e, W, σ, a2.m, s2.is i, j, q2⟩⟩
        rw [g.hK]
        rcases h1 with ⟨ob, k1, k2⟩ | k
        · exact .inl ⟨ob, (out_some k1).2, k2⟩
        · exact .inr k
      | _ => cases hok
    · exact q1.elim
theorem r_indexL (g : Gd Z X) (ho : RE Z W P X o A) (he : RE Z W P X e B) (hbase : attributeBase o "index" X.env (eval o X.env) = eval o X.env)
    (hfew : ((backTo cpos (starEach [e] X.env)).all (fun x => !x.1) && (backToKw cpos (keywordEach [] X.env)).all (fun x => x.1.isSome) && decide (([e] : List Expr).length + ([] : List Keyword).length + (if ([] : List Keyword).isEmpty then 0 else 1) < 30)) = true)
    (hline : (apos.endLine == cpos.line) = true) (hs : starEach [e] X.env = (false, eval e X.env) :: starEach [] X.env) (hpl : (backTo cpos (starEach [] X.env)).any (·.1) = false) :
    RE Z W P X (.Call (.Attribute o "index" apos) [e] [] cpos) (.idx false A B) :=
  PE.imp (pe_bm PySem.F.plainAttrs_list PySem.F.slot_list_index PySem.F.type_list_index (m_index g.hK (by have := g.room; omega)) ho (pa_cons he pa_nil hs) hbase hfew hline hs hpl) fun σ H Q ⟨φ, ρ, M, a, q⟩ => by
    rw [ev] at q
    refine (tE.bind a q).mono fun x H1 ⟨φ1, M1, d, a1, s1, i, q1⟩ => ?_
    split at q1
    · rename_i hok
      cases hd : rd M1 d with
      | lst ds =>
        obtain ⟨b, vs, rfl, h1, _⟩ := rv_lst a1.m i hd
        exact ⟨.inl ⟨rfl, vs, SqL.of h1⟩, (tE.bind a1 q1).mono fun y H2 ⟨φ2, M2, e, a2, s2, j, q2⟩ => ⟨y, rfl, φ2, M2, d, e, W, σ, a2.m, s2.is i, j, q2⟩⟩
      | _ => simp [okR, hd] at hok
    · exact q1.elim
/-! ### puts -/
theorem kis_any : ∀ {kvs : List (D × D)} {ws : List (Key × V)} {k : D} {kk : Key}, KIs Z φ G kvs ws → toKey k = some kk → (kvs.any fun p => p.1.eqv k) = ws.any fun p => decide (p.1 = kk)
  | [], ws, k, kk, h, hk => by
    cases (show ws = [] from h)
    rfl
  | (k', d) :: r, ws, k, kk, h, hk => by
    obtain ⟨k2, v, ws', h1, h2, h3, h4, h5⟩ := h
    subst h1
    simp only [List.any_cons, key_eqv h2 hk, kis_any h5 hk]
theorem kis_app : ∀ {kvs : List (D × D)} {ws : List (Key × V)} {k d : D} {kk : Key} {v : V}, KIs Z φ G kvs ws → toKey k = some kk → strOkD k = true → Is Z φ G d v → KIs Z φ G (kvs ++ [(k, d)]) (ws ++ [(kk, v)])
  | [], ws, k, d, kk, v, h, h1, h2, h3 => by
    cases (show ws = [] from h)
    exact ⟨kk, v, [], rfl, h1, h2, h3, rfl⟩
  | (k', d') :: r, ws, k, d, kk, v, h, h1, h2, h3 => by
    obtain ⟨k2, v2, ws', e1, e2, e3, e4, e5⟩ := h
    subst e1
    exact ⟨k2, v2, _, rfl, e2, e3, e4, kis_app e5 h1 h2 h3⟩
theorem kis_map : ∀ {kvs : List (D × D)} {ws : List (Key × V)} {k d : D} {kk : Key} {v : V}, KIs Z φ G kvs ws → toKey k = some kk → Is Z φ G d v →
    KIs Z φ G (kvs.map fun p => if p.1.eqv k = true then (p.1, d) else p) (ws.map fun p => if p.1 = kk then (p.1, v) else p)
  | [], ws, k, d, kk, v, h, h1, h3 => by
    cases (show ws = [] from h)
    exact rfl
  | (k', d') :: r, ws, k, d, kk, v, h, h1, h3 => by
    obtain ⟨k2, v2, ws', e1, e2, e3, e4, e5⟩ := h
    subst e1
    have ih := kis_map e5 h1 h3
    have ke := key_eqv e2 h1
    simp only [List.map_cons]
    by_cases c : k2 = kk
    · rw [if_pos (by rw [ke]; simpa using c), if_pos c]
      exact ⟨k2, v, _, rfl, e2, e3, h3, ih⟩
    · rw [if_neg (by rw [ke]; simpa using c), if_neg c]
      exact ⟨k2, v2, _, rfl, e2, e3, e4, ih⟩
theorem kis_put {kvs : List (D × D)} {ws : List (Key × V)} {k d : D} {kk : Key} {v : V} (h : KIs Z φ G kvs ws) (h1 : toKey k = some kk) (h2 : strOkD k = true) (h3 : Is Z φ G d v) : KIs Z φ G (putKv kvs k d) (putK ws kk v) := by
  unfold putKv putK
  rw [kis_any h h1]
  split
  · exact kis_map h h1 h3
  · exact kis_app h h1 h2 h3
theorem tis_any : ∀ {kvs : List (D × D)} {ws : List (List Key × V)} {ks : List D} {kk : List Key}, TIs Z φ G kvs ws → toKeys ks = some kk → (kvs.any fun p => p.1.eqv (.key ks)) = ws.any fun p => decide (p.1 = kk)
  | [], ws, k, kk, h, hk => by
    cases (show ws = [] from h)
    rfl
  | (k', d) :: r, ws, k, kk, h, hk => by
    obtain ⟨k1, k2, v, ws', h1, rfl, h2, h3, h4, h5⟩ := h
    subst h1
    have ke := tkey_eqv (x := .key k1) (y := .key k) (a := k1) (b := k) (by simp [D.toP]) (by simp [D.toP]) h2 hk
    simp only [List.any_cons, ke, tis_any h5 hk]
theorem tis_app : ∀ {kvs : List (D × D)} {ws : List (List Key × V)} {ks : List D} {d : D} {kk : List Key} {v : V}, TIs Z φ G kvs ws → toKeys ks = some kk → ks.all strOkD = true → Is Z φ G d v → TIs Z φ G (kvs ++ [(.key ks, d)]) (ws ++ [(kk, v)])
  | [], ws, k, d, kk, v, h, h1, h2, h3 => by
    cases (show ws = [] from h)
    exact ⟨k, kk, v, [], rfl, rfl, h1, h2, h3, rfl⟩
  | (k', d') :: r, ws, k, d, kk, v, h, h1, h2, h3 => by
    obtain ⟨k1, k2, v2, ws', e1, e0, e2, e3, e4, e5⟩ := h
    subst e1
    exact ⟨k1, k2, v2, _, rfl, e0, e2, e3, e4, tis_app e5 h1 h2 h3⟩
theorem tis_map : ∀ {kvs : List (D × D)} {ws : List (List Key × V)} {ks : List D} {d : D} {kk : List Key} {v : V}, TIs Z φ G kvs ws → toKeys ks = some kk → Is Z φ G d v →
    TIs Z φ G (kvs.map fun p => if p.1.eqv (.key ks) = true then (p.1, d) else p) (ws.map fun p => if p.1 = kk then (p.1, v) else p)
  | [], ws, k, d, kk, v, h, h1, h3 => by
    cases (show ws = [] from h)
    exact rfl
  | (k', d') :: r, ws, k, d, kk, v, h, h1, h3 => by
    obtain ⟨k1, k2, v2, ws', e1, rfl, e2, e3, e4, e5⟩ := h
    subst e1
    have ih := tis_map e5 h1 h3
    have ke := tkey_eqv (x := .key k1) (y := .key k) (a := k1) (b := k) (by simp [D.toP]) (by simp [D.toP]) e2 h1
    simp only [List.map_cons]
    by_cases c : k2 = kk
    · rw [if_pos (by rw [ke]; simpa using c), if_pos c]
      exact ⟨k1, k2, v, _, rfl, rfl, e2, e3, h3, ih⟩
    · rw [if_neg (by rw [ke]; simpa using c), if_neg c]
      exact ⟨k1, k2, v2, _, rfl, rfl, e2, e3, e4, ih⟩
theorem tis_put {kvs : List (D × D)} {ws : List (List Key × V)} {ks : List D} {d : D} {kk : List Key} {v : V} (h : TIs Z φ G kvs ws) (h1 : toKeys ks = some kk) (h2 : ks.all strOkD = true) (h3 : Is Z φ G d v) : TIs Z φ G (putKv kvs (.key ks) d) (putK ws kk v) := by
  unfold putKv putK
  rw [tis_any h h1]
  split
  · exact tis_map h h1 h3
  · exact tis_app h h1 h2 h3
end
end DL
end
section
set_option Elab.async false
set_option linter.all false
set_option maxRecDepth 100000
set_option autoImplicit false
set_option maxHeartbeats 4000000
/-! DL21: o[i] = e, append, dict displays. -/
namespace DL
open PySem PySem.Spec PyProof.Rows L2 LamX

section
variable {Z : Fix} {W : WX} {P : Fns} {u : Under} {X : Cx} {φ ψ φ' φ0 φ1 : Ph} {G H H' H0 H1 : Hp} {M M' : Store} {σ : L2.St} {ρ : Env} {e a b c o i : Expr} {A B C E : E} {pos p p2 p3 tpos spos apos cpos : Pos} {x : Str}
def rSubD (Z : Fix) : TSet := fun o i v H Q => ∃ φ M x k d M', RepM Z φ M H ∧ Is Z φ (out φ H) x o ∧ Is Z φ (out φ H) k i ∧ Is Z φ (out φ H) d v ∧ subD x k d M = some M' ∧ ∀ H', Step Z φ H φ H' M' → Q H'
theorem putOk_key {k : D} (h : putOk true k = true) : ∃ ks kk, k = .key ks ∧ toKeys ks = some kk := by
  cases k with
  | key ks =>
    obtain ⟨kk, hk⟩ := keys_all (show ks.all isKey = true from h)
    exact ⟨ks, kk, rfl, hk⟩
  | _ => cases h
theorem set_sub (g : Gd Z X) : PSet X (rSubD Z) := by
  intro pins s σ H ov iv vv o' i' v' Q I ro ri rv h
  obtain ⟨φ, M, x, k, d, M', m, ix, ik, iD, e, q⟩ := h
  unfold subD at e
  split at e
  · rename_i n
    rw [Is] at ix
    obtain ⟨a, rfl, ha⟩ := ix
    split at e
    · rename_i ds e1
      obtain ⟨vs, h1, h2⟩ := m.lst e1 ha
      split at e
      · rename_i k
        cases hp : place ds.length k with
        | none => rw [hp] at e; cases e
        | some j =>
          rw [hp] at e
          cases e
          refine set_list pins s σ H (.ref a) iv vv o' i' v' Q I ro ri rv ⟨a, vs, k, j, rfl, is_int ik, h1, ?_, ?_⟩
          · rw [← h2.length]
            exact hp
          · exact q _ (step_set m ha ⟨vs.set j vv, rfl, h2.set j iD⟩)
      · cases e
    · rename_i tk kvs e1
      split at e
      · rename_i ok
        cases e
        simp only [Bool.and_eq_true, decide_eq_true_eq] at ok
        cases (show o' = Value.ref a from ro)
        rcases m.dict e1 ha with ⟨rfl, ws, h1, h2⟩ | ⟨rfl, ws, h1, h2⟩
        · obtain ⟨kk, hk⟩ := keyOk_one (d := k) ok.1
          obtain ⟨ek, sk⟩ := is_key ik hk
          have hl := kis_len h2
          have hlt := ok.2
          refine d_setItem (H' := upd H a (.dK (putK ws kk vv))) (by have := g.room; omega) I (.inl ⟨ws, kk, h1, ek, by rw [← hl, ← line_eq]; exact hlt, rfl⟩) ri rv fun s' I' => ⟨_, I', ?_⟩
          exact q _ (step_set m ha ⟨_, rfl, kis_put h2 hk sk iD⟩)
        · obtain ⟨ks, kk, rfl, hk⟩ := putOk_key ok.1
          rw [Is] at ik
          obtain ⟨b, us, rfl, k1, k2⟩ := ik
          obtain ⟨ek, sk⟩ := iss_keys k2 hk
          subst ek
          have hl := tis_len h2
          have hlt := ok.2
          refine d_setItem (H' := upd H a (.dT (putK ws kk vv))) (by have := g.room; omega) I (.inr ⟨ws, kk, b, h1, rfl, (out_some k1).2, by rw [← hl, ← line_eq]; exact hlt, rfl⟩) ri rv fun s' I' => ⟨_, I', ?_⟩
          exact q _ (step_set m ha ⟨_, rfl, tis_put h2 hk sk iD⟩)
      · cases e
    · cases e
  · cases e
/-- o[i] = e -/
theorem s_sub (g : Gd Z X) (ho : RE Z W P X o A) (hi : RE Z W P X i B) (he : RE Z W P X e C)
    (ha : ∀ v, assign (.Subscript o i p) X.env v = (do
      let ov ← holding [v] (eval o X.env)
      let iv ← holding [v, ov] (eval i X.env)
      standAt p
      holding [v, ov, iv] (setItem ov iv v)
      release [v, ov, iv] []))
    (hs : swapsWithSole [.Subscript o i p] e pos.line X.env = pure false) (hw : swappedStores [.Subscript o i p] e X.env = pure none) (h1 : (assignEach [.Subscript o i p] X.env).map (·.2) = [assign (.Subscript o i p) X.env]) :
    RS Z W P u X (.Assign [.Subscript o i p] e pos) (.sub A B C) :=
  PS.imp (ps_asg he (pg_sub ho hi (set_sub g) ha) hs hw h1) fun E σ H ⟨φ, ρ, M, a, q⟩ => by
    rw [exec] at q
    refine (tE.toF a q).mono fun v H1 ⟨φ1, M1, d, a1, s1, j1, q1⟩ => (tE.toF a1 q1).mono fun x H2 ⟨φ2, M2, dx, a2, s2, j2, q2⟩ => (tE.toF a2 q2).mono fun k H3 ⟨φ3, M3, dk, a3, s3, j3, q3⟩ => ?_
    cases es : subD dx dk d M3 with
    | none => rw [es] at q3; exact q3.elim
    | some M4 =>
      rw [es] at q3
      exact ⟨φ3, M3, dx, dk, d, M4, a3.m, s3.is j2, j3, s3.is (s2.is j1), es, fun H4 s4 => q3 φ3 σ H4 s4 (s4.repE a3.e)⟩
/-- o[i], o2[i2] = a, b -/
theorem s_sub2 {o2 i2 : Expr} {A2 B2 D2 : DL.E} {k k2 : Nat} {pt pt2 : Pos} (g : Gd Z X) (ho : RE Z W P X o A) (hi : RE Z W P X i B) (ho2 : RE Z W P X o2 A2) (hi2 : RE Z W P X i2 B2) (h1 : RE Z W P X a C) (h2 : RE Z W P X b D2)
    (ha : ∀ v, assign (.Subscript o i p) X.env v = (do
      let ov ← holding [v] (eval o X.env)
      let iv ← holding [v, ov] (eval i X.env)
      standAt p
      holding [v, ov, iv] (setItem ov iv v)
      release [v, ov, iv] []))
    (ha2 : ∀ v, assign (.Subscript o2 i2 p2) X.env v = (do
      let ov ← holding [v] (eval o2 X.env)
      let iv ← holding [v, ov] (eval i2 X.env)
      standAt p2
      holding [v, ov, iv] (setItem ov iv v)
      release [v, ov, iv] []))
    (e1 : starEach [a, b] X.env = (false, eval a X.env) :: starEach [b] X.env) (e2 : starEach [b] X.env = (false, eval b X.env) :: starEach [] X.env)
    (c1 : (assignEach [.Subscript o i p, .Subscript o2 i2 p2] X.env).map (·.2) = assign (.Subscript o i p) X.env :: (assignEach [.Subscript o2 i2 p2] X.env).map (·.2))
    (c2 : (assignEach [.Subscript o2 i2 p2] X.env).map (·.2) = assign (.Subscript o2 i2 p2) X.env :: (assignEach [] X.env).map (·.2))
    (hn : (assignEach [.Subscript o i p, .Subscript o2 i2 p2] X.env).length = 2) (hst : (assignEach [.Subscript o i p, .Subscript o2 i2 p2] X.env).findIdx? (·.1) = none)
    (hs : swapsWithSole [.Tuple [.Subscript o i p, .Subscript o2 i2 p2] k pt] (.Tuple [a, b] k2 pt2) pos.line X.env = pure false) (hw : swappedStores [.Tuple [.Subscript o i p, .Subscript o2 i2 p2] k pt] (.Tuple [a, b] k2 pt2) X.env = pure none)
    (h1' : (assignEach [.Tuple [.Subscript o i p, .Subscript o2 i2 p2] k pt] X.env).map (·.2) = [assign (.Tuple [.Subscript o i p, .Subscript o2 i2 p2] k pt) X.env]) :
    RS Z W P u X (.Assign [.Tuple [.Subscript o i p, .Subscript o2 i2 p2] k pt] (.Tuple [a, b] k2 pt2) pos) (.sub2 A B A2 B2 C D2) :=
  PS.imp (ps_asg (pe_tupF (pa_cons h1 (pa_cons h2 pa_nil e2) e1)) (pg_tup g.calm (pgs_cons (pg_sub ho hi (set_sub g) ha) (pgs_cons (pg_sub ho2 hi2 (set_sub g) ha2) pgs_nil c2) c1) hn hst) hs hw h1') fun E σ H ⟨φ, ρ, M, a, q⟩ => by
    rw [exec] at q
    refine (tE.toF a q).mono fun v1 H1 ⟨φ1, M1, d1, a1, s1, j1, q1⟩ => (tE.toF a1 q1).mono fun v2 H2 ⟨φ2, M2, d2, a2, s2, j2, q2⟩ => ⟨by show 2 ≤ sizeLine; decide, fun T ob hT hd => ?_⟩
    have sT := step_new (o := .frz ob (.tup [v1, v2])) a2.m hT
    have aT := sT.at_ a2
    refine ⟨T, [v1, v2], rfl, .inl (.inr ⟨ob, upd_same⟩), rfl, v1, [v2], rfl, ?_⟩
    have q2 := postS.rebase sT q2
    refine (tE.toF aT q2).mono fun x H3 ⟨φ3, M3, dx, a3, s3, j3, q3⟩ => (tE.toF a3 q3).mono fun k' H4 ⟨φ4, M4, dk, a4, s4, j4, q4⟩ => ?_
    cases es : subD dx dk d1 M4 with
    | none => rw [es] at q4; exact q4.elim
    | some M5 =>
      rw [es] at q4
      refine ⟨φ4, M4, dx, dk, d1, M5, a4.m, s4.is j3, j4, s4.is (s3.is (sT.is (s2.is j1))), es, fun H5 s5 => ?_⟩
      have a5 := s5.at_ a4
      have q4 := postS.rebase s5 q4
      refine ⟨v2, [], rfl, (tE.toF a5 q4).mono fun x2 H6 ⟨φ6, M6, dx2, a6, s6, j6, q6⟩ => (tE.toF a6 q6).mono fun k2' H7 ⟨φ7, M7, dk2, a7, s7, j7, q7⟩ => ?_⟩
      cases es2 : subD dx2 dk2 d2 M7 with
      | none => rw [es2] at q7; exact q7.elim
      | some M8 =>
        rw [es2] at q7
        exact ⟨φ7, M7, dx2, dk2, d2, M8, a7.m, s7.is j6, j7, s7.is (s6.is (s5.is (s4.is (s3.is (sT.is j2))))), es2, fun H8 s8 => ⟨rfl, q7 φ7 σ H8 s8 (s8.repE a7.e)⟩⟩
/-- o.append(e) -/
theorem s_app (g : Gd Z X) (ho : RE Z W P X o A) (he : RE Z W P X e B) (hbase : attributeBase o "append" X.env (eval o X.env) = eval o X.env)
    (hfew : ((backTo cpos (starEach [e] X.env)).all (fun x => !x.1) && (backToKw cpos (keywordEach [] X.env)).all (fun x => x.1.isSome) && decide (([e] : List Expr).length + ([] : List Keyword).length + (if ([] : List Keyword).isEmpty then 0 else 1) < 30)) = true)
    (hline : (apos.endLine == cpos.line) = true) (hs : starEach [e] X.env = (false, eval e X.env) :: starEach [] X.env) (hpl : (backTo cpos (starEach [] X.env)).any (·.1) = false)
    (hsw : swapsWith (.Call (.Attribute o "append" apos) [e] [] cpos) none pos.line X.env = pure false) : RS Z W P u X (.Expr (.Call (.Attribute o "append" apos) [e] [] cpos) pos) (.app A B) :=
  PS.imp (ps_expr (pe_bm PySem.F.plainAttrs_list PySem.F.slot_list_append PySem.F.type_list_append (fun pins s σ H x xs v us Q I rx rxs q => mt_append pins s σ H x xs v us Q I rx rxs q) ho (pa_cons he pa_nil hs) hbase hfew hline hs hpl) hsw) fun E σ H ⟨φ, ρ, M, a, q⟩ => by
    rw [exec] at q
    refine (tE.toF a q).mono fun x H1 ⟨φ1, M1, d, a1, s1, i1, q1⟩ => ?_
    split at q1
    · rename_i hl
      unfold isL at hl
      split at hl
      · rename_i n
        split at hl
        · rename_i ds e1
          rw [Is] at i1
          obtain ⟨b, rfl, hb⟩ := i1
          obtain ⟨vs, h1, h2⟩ := a1.m.lst e1 hb
          refine ⟨.inl ⟨rfl, vs, SqL.of h1⟩, (tE.toF a1 q1).mono fun y H2 ⟨φ2, M2, d2, a2, s2, i2, q2⟩ => ?_⟩
          have i1' : Is Z φ2 (out φ2 H2) (.ref n) (.ref b) := s2.is (by rw [Is]; exact ⟨b, rfl, hb⟩)
          rw [Is] at i1'
          obtain ⟨b', e', hb2⟩ := i1'
          cases e'
          cases ea : appD (.ref n) d2 M2 with
          | none => rw [ea] at q2; exact q2.elim
          | some M3 =>
            rw [ea] at q2
            unfold appD at ea
            simp only at ea
            split at ea
            · rename_i ds2 e2
              split at ea
              · rename_i hlen
                cases ea
                obtain ⟨vs2, k1, k2⟩ := a2.m.lst e2 hb2
                have st := step_set (o := .lst (ds2 ++ [d2])) (ho := .lst (vs2 ++ [y])) a2.m hb2 ⟨_, rfl, k2.app (Iss.cons i2 Iss.nil)⟩
                exact ⟨b, vs2, y, rfl, rfl, k1, by rw [← k2.length, ← line_eq]; exact hlen, q2 φ2 σ _ st (st.repE a2.e)⟩
              · cases ea
            · cases ea
        · cases hl
      · cases hl
    · exact q1.elim
end
end DL
end
section
set_option Elab.async false
set_option linter.all false
set_option maxRecDepth 100000
set_option autoImplicit false
set_option maxHeartbeats 4000000
/-! DL22: dict displays. -/
namespace DL
open PySem PySem.Spec PyProof.Rows L2 LamX

section
variable {Z : Fix} {W : WX} {P : Fns} {u : Under} {X : Cx} {φ ψ φ' φ0 φ1 : Ph} {G H H' H0 H1 : Hp} {M M' : Store} {σ : L2.St} {ρ : Env} {e a b c o i : Expr} {A B C E : E} {pos p p2 p3 tpos spos apos cpos : Pos} {x : Str}
theorem IsX.seen {D : Addr} {ho : HO} {c : Nat} {ds : List DL.D} {cls : Value} {dx : Option Addr} (np : D ∉ φ.all) (h : IsX Z (φ.hide D) (out (φ.hide D) H) c ds cls dx) : IsX Z φ (out φ (upd H D ho)) c ds cls dx := by
  obtain ⟨h1, d, vs, h2, h3, h4, h5⟩ := h
  refine ⟨h1, d, vs, h2, out_seen np _ _ h3, h4, ?_⟩
  exact Iss.hs (φ := (φ.hide D).add []) (ψ := φ) (by simp [Ph.add, Ph.hide]) _ _ (Iss.mono (ν := []) (seen_ext (ho := ho) np) _ _ h5)
/-- a part that runs while D stands hidden -/
theorem post.hide {α β : Type} {RA : Ph → Hp → α → β → Prop} {r : R α} {D : Addr} {ho : HO} {Q : β → Hp → Prop} (m : RepM Z φ M H) (hD : H D = none) (q : post Z (fun _ _ _ _ => False) W σ φ H r (fun (_ : β) _ => True))
    (k : ∀ a M', r = .ok a M' → ∀ ψ v H', (∀ ho2, Step Z φ H ψ (upd H' D ho2) M') → RepM Z (ψ.hide D) M' H' → ψ.h = φ.h → H' D = some ho → RA (ψ.hide D) (out (ψ.hide D) H') a v → Q v H') : post Z RA W σ (φ.hide D) (upd H D ho) r Q := by
  have s0 : Step Z φ H φ (upd (upd H D ho) D ho) M := by
    rw [upd_upd]
    exact step_new m hD
  cases r with
  | ok a M' =>
    intro φ' v H' s i
    obtain ⟨_, hφ⟩ := Step.over (ho2 := .lst []) hD s0 rfl s
    have st := fun ho2 => (Step.over (ho2 := ho2) hD s0 rfl s).1
    generalize hψ : Ph.mk φ'.s φ.h = ψ at hφ st
    subst hφ
    refine k a M' rfl ψ v H' st s.m (by rw [← hψ]) ?_ i
    rw [s.hid D List.mem_cons_self, upd_same]
  | ex c ds M' =>
    intro φ' cls dx H' s i
    obtain ⟨_, hφ⟩ := Step.over (ho2 := .lst []) hD s0 rfl s
    have st := fun ho2 => (Step.over (ho2 := ho2) hD s0 rfl s).1
    generalize hψ : Ph.mk φ'.s φ.h = ψ at hφ st
    subst hφ
    have e : H' D = some ho := by rw [s.hid D List.mem_cons_self, upd_same]
    have np := (hide_nd s.m).1
    have st1 := st ho
    rw [upd_eta e] at st1
    have ix := IsX.seen (ho := ho) np i
    rw [upd_eta e] at ix
    exact q ψ cls dx H' st1 ix
  | no => exact q
/-! ### {k: v, ..} -/
def pairsV : List V → Option (List (V × V))
  | [] => some []
  | [_] => none
  | a :: b :: r => (pairsV r).map ((a, b) :: ·)
structure RP (Z : Fix) (W : WX) (P : Fns) (X : Cx) (pos : Pos) (ks : List (Option Expr)) (vs : List Expr) (Es : Es) : Prop where
  pp : ∃ trs, PPs X pos ks vs trs ∧ ∀ σ H Q, tL Z W (evs P Es) σ H (fun us H' => ∃ ps, pairsV us = some ps ∧ Q ps H') → tPairs trs σ H Q
theorem p_nil : RP Z W P X pos [] [] .nil := ⟨[], pps_nil, fun σ H Q ⟨φ, ρ, M, a, q⟩ => by
  rw [evs] at q
  obtain ⟨ps, e, q⟩ := q.fin a.m (v := []) Iss.nil
  cases e
  exact q⟩
theorem p_cons {ks : List (Option Expr)} {vs : List Expr} {Es : Es} (hk : RE Z W P X a A) (hv : RE Z W P X b B) (hr : RP Z W P X pos ks vs Es) : RP Z W P X pos (some a :: ks) (b :: vs) (.cons A (.cons B Es)) := by
  obtain ⟨trs, h1, h2⟩ := hr.pp
  refine ⟨_, pps_cons hk hv h1, fun σ H Q ⟨φ, ρ, M, a, q⟩ => ?_⟩
  rw [evs] at q
  refine (tE.bind a q).mono fun x H1 ⟨φ1, M1, d, a1, s1, i1, q1⟩ => ?_
  rw [evs, R.bind_assoc] at q1
  refine (tE.bind a1 q1).mono fun y H2 ⟨φ2, M2, e, a2, s2, i2, q2⟩ => ?_
  rw [R.bind_assoc] at q2
  refine h2 σ H2 _ ((tL.bind a2 q2).mono fun us H3 ⟨φ3, M3, ds, a3, s3, i3, q3⟩ => ?_)
  obtain ⟨ps, ep, qq⟩ := q3.fin (v := x :: y :: us) a3.m (Iss.cons (s3.is (s2.is i1)) (Iss.cons (s3.is i2) i3))
  simp only [pairsV, Option.map_eq_some_iff] at ep
  obtain ⟨ps', e1, rfl⟩ := ep
  exact ⟨ps', e1, qq⟩
theorem pairs_iss : ∀ {ds : List D} {us : List V} {ps : List (D × D)}, Iss Z φ G ds us → pairUp ds = some ps → ps.all (fun p => putOk false p.1) = true →
    ∃ kvs : List (Key × V), pairsV us = some (kvs.map fun kv => (kV kv.1, kv.2)) ∧ kvs.length = ps.length ∧ ∀ (kv0 : List (D × D)) (ws0 : List (Key × V)), KIs Z φ G kv0 ws0 → KIs Z φ G (ps.foldl (fun m p => putKv m p.1 p.2) kv0) (kvs.foldl (fun acc kv => putK acc kv.1 kv.2) ws0)
  | [], us, ps, h, e, _ => by
    cases e
    cases h.inv0
    exact ⟨[], rfl, rfl, fun _ _ h => h⟩
  | [_], us, ps, h, e, _ => by cases e
  | k :: d :: r, us, ps, h, e, ok => by
    obtain ⟨v1, r1, rfl, i1, h1⟩ := h.inv
    obtain ⟨v2, r2, rfl, i2, h2⟩ := h1.inv
    simp only [pairUp, Option.map_eq_some_iff] at e
    obtain ⟨ps', e1, rfl⟩ := e
    simp only [List.all_cons, Bool.and_eq_true] at ok
    obtain ⟨kvs, k1, k2, k3⟩ := pairs_iss h2 e1 ok.2
    obtain ⟨kk, hk⟩ := keyOk_one (d := k) ok.1
    obtain ⟨rfl, sk⟩ := is_key i1 hk
    refine ⟨(kk, v2) :: kvs, by simp [pairsV, k1], by simp [k2], fun kv0 ws0 h0 => ?_⟩
    exact k3 _ _ (kis_put h0 hk sk i2)
theorem r_newd {ks : List (Option Expr)} {vs : List Expr} {Es : Es} (h : RP Z W P X pos ks vs Es) (hall : ks.all (·.isSome) = true) (hl : ks.length = vs.length) (h0 : ks ≠ []) (h15 : ks.length ≤ 15) : RE Z W P X (.Dict ks vs pos) (.newd false Es) := by
  obtain ⟨trs, h1, h2⟩ := h.pp
  refine PE.imp (pe_disp h1 hall hl h0 h15) fun σ H Q ⟨φ, ρ, M, a, q⟩ D hD => ?_
  rw [ev] at q
  refine h2 σ _ _ ⟨φ.hide D, ρ, M, a.hide hD, ?_⟩
  refine post.hide a.m hD ?_ fun ds M1 er ψ us H2 st m2 hh hz iss => ?_
  · cases e : evs P Es ρ M with
    | ok ds M1 => exact fun _ _ _ _ f => f.elim
    | ex c ds M1 =>
      rw [e] at q
      exact q
    | no =>
      rw [e] at q
      exact q.elim
  · rw [er] at q
    simp only [R.bind_ok] at q
    cases ep : pairUp ds with
    | none => rw [ep] at q; exact q.elim
    | some ps =>
      rw [ep] at q
      simp only at q
      split at q
      · rename_i ok
        obtain ⟨kvs, k1, k2, k3⟩ := pairs_iss iss ep ok.1
        refine ⟨_, k1, hz, kvs, rfl, by rw [k2]; exact ok.2, ?_⟩
        have i3 := k3 [] [] rfl
        have sd := Step.stored (o := .dict false (ps.foldl (fun m p => putKv m p.1 p.2) [])) (ho' := .dK (mergeK [] kvs)) (st (.dK [])) hD m2 ⟨_, rfl, kis_hs (φ := ψ.hide D) (ψ := ψ) rfl i3⟩
        refine q _ _ _ sd ?_
        rw [Is]
        refine ⟨D, rfl, ?_⟩
        show (ψ.s ++ [D])[M1.length]? = _
        rw [← show ψ.s.length = M1.length from m2.len, List.getElem?_append_right (Nat.le_refl _), Nat.sub_self]
        rfl
      · exact q.elim
theorem r_newK : RE Z W P X (.Dict [] [] pos) (.newd false .nil) := PE.imp pe_dnewK fun σ H Q ⟨φ, ρ, M, a, q⟩ => by
  rw [ev, evs] at q
  exact post.newO (o := .dict false []) q a.m ⟨[], rfl, rfl⟩
theorem r_newT : RE Z W P X (.Dict [] [] pos) (.newd true .nil) := PE.imp pe_dnewT fun σ H Q ⟨φ, ρ, M, a, q⟩ => by
  rw [ev, evs] at q
  exact post.newO (o := .dict true []) q a.m ⟨[], rfl, rfl⟩
end
end DL
end
section
set_option Elab.async false
set_option linter.all false
set_option maxRecDepth 100000
set_option autoImplicit false
set_option maxHeartbeats 4000000
/-! DL23: calls of defs. -/
namespace DL
open PySem PySem.Spec PyProof.Rows L2 LamX

section
variable {Z : Fix} {W : WX} {P : Fns} {u : Under} {X : Cx} {φ ψ φ' φ0 φ1 : Ph} {G H H' H0 H1 : Hp} {M M' : Store} {σ : L2.St} {ρ : Env} {e a b c o i : Expr} {A B C E : E} {pos p p2 p3 tpos spos apos cpos kpos : Pos} {x : Str}
/-- what is known of a def: it computes S -/
def spD (Z : Fix) (n : Nat) (S : List D → Store → R D) : Sp := fun vs H Q E => vs.length = n ∧ ∃ φ M ds, RepM Z φ M H ∧ Iss Z φ (out φ H) ds vs ∧ post Z (Is Z) (fun cls dx _ H' => E cls dx H') [] φ H (S ds M) Q
/-- .. and what a caller must see of it -/
structure Kn (Z : Fix) (X : Cx) (k : Nat) (x : Str) (f : Addr) (fd : FuncData) (ps : List Str) (S : List D → Store → R D) : Prop where
  ok : FnOk X.prog X.w X.K X.mg X.base (L2.CX X.prog X.w) k f fd ps (spD Z ps.length S)
  room : Room k X.A
  mg : X.mg x = some (.ref f)
  keep : PySem.W.keepIn X.K (.ref f) = true
theorem spD_of {n : Nat} {S : List D → Store → R D} {Q : VK} {ds : List D} {vs : List V} (m : RepM Z φ M H) (i : Iss Z φ (out φ H) ds vs) (hl : vs.length = n) (q : post Z (Is Z) W σ φ H (S ds M) Q) : spD Z n S vs H Q (WE W σ) := by
  refine ⟨hl, φ, M, ds, m, i, ?_⟩
  cases e : S ds M with
  | ok d M1 =>
    rw [e] at q
    exact q
  | ex c es M1 =>
    rw [e] at q
    exact q
  | no =>
    rw [e] at q
    exact q
theorem r_call {k f : Nat} {fd : FuncData} {ps : List Str} {dvs : List V} {dsv : List Value} {dd : List D} {pm : List (Sum Nat D)} {es : List Expr} {A : Es} {m : Nat} (tk : Takes X W) (hg : Gl X x) (K : Kn Z X k x (Z.fa f) fd ps (P.S f)) (hb : Binds X.K fd ps dsv) (hd : Vals dvs dsv)
    (hdd : ∀ φ G, Iss Z φ G dd dvs) (hm : ∀ ds : List D, ds.length = m → pick ds pm = some (ds ++ dd)) (hl : ∀ ρ M ds M', evs P A ρ M = .ok ds M' → ds.length = m) (hps : m + dvs.length = ps.length) (ha : RA Z W P X (e :: es) A)
    (hdb : (x == ("__debug__" : Str)) = false) (he : starEach (e :: es) X.env = (false, eval e X.env) :: starEach es X.env) (hpl : (backTo pos (starEach es X.env)).any (·.1) = false) :
    RE Z W P X (.Call (.Name x p) (e :: es) [] pos) (.call f pm A .nil) :=
  PE.imp (pe_callSD K.ok K.room hg K.mg K.keep hb hd (passAt tk) ha hdb he hpl) fun σ H Q ⟨φ, ρ, M, a, q⟩ => by
    have q : post Z (Is Z) W σ φ H ((evs P A ρ M).bind fun ds M => callO (P.S f) (pick ds pm) M) Q := by
      rw [ev] at q
      have e0 : ∀ M, evs P .nil ρ M = .ok [] M := fun M => by rw [evs]
      simpa only [e0, R.bind_ok, List.append_nil] using q
    have hl' := hl ρ M
    refine ⟨φ, ρ, M, a, ?_⟩
    cases er : evs P A ρ M with
    | ok ds M1 =>
      rw [er] at q
      have hlen := hl' ds M1 er
      intro φ1 vs H1 s1 i1
      have q := post.rebase s1 q
      simp only [R.bind_ok, hm ds hlen, callO] at q
      exact spD_of s1.m (i1.app (hdd _ _)) (by rw [List.length_append, ← i1.length, hlen]; exact hps) q
    | ex c ds M1 =>
      rw [er] at q
      exact q
    | no =>
      rw [er] at q
      exact q.elim
/-! with keywords -/
abbrev RK (Z : Fix) (W : WX) (P : Fns) (X : Cx) (ks : List Keyword) (E : Es) : Prop := PK X ks (tL Z W (evs P E))
theorem PK.imp {ks : List Keyword} {t t' : TA} (h : PK X ks t) (k : ∀ σ H Q, t' σ H Q → t σ H Q) : PK X ks t' := ⟨fun pos pins s σ H Q I q => h.run pos pins s σ H Q I (k σ H Q q)⟩
theorem rk_nil : RK Z W P X [] .nil := PK.imp pk_nil fun σ H Q ⟨φ, ρ, M, a, q⟩ => by
  rw [evs] at q
  exact q.fin a.m Iss.nil
theorem rk_cons {nm : Option Str} {ks : List Keyword} {R : Es} (ha : RE Z W P X a A) (hr : RK Z W P X ks R) : RK Z W P X (⟨nm, a, kpos⟩ :: ks) (.cons A R) :=
  PK.imp (pk_cons ha hr) fun σ H Q ⟨φ, ρ, M, a, q⟩ => by
    rw [evs] at q
    refine (tE.bind a q).mono fun x H1 ⟨φ1, M1, d, a1, s1, i, q1⟩ => (tL.bind a1 q1).mono fun xs H2 ⟨φ2, M2, ds, a2, s2, j, q2⟩ => ?_
    exact q2.fin a2.m (Iss.cons (s2.is i) j)
def tCallNS (n m : Nat) (sp : Sp) (gV : List V → List V → List V) (E : L2.St → XK) (t tk : TA) : TE := fun σ H Q => t σ H fun vs H1 => tk σ H1 fun zs H2 => vs.length = n ∧ zs.length = m ∧ sp (gV vs zs) H2 Q (E σ)
theorem pe_callNS {CX : CXT} {k n : Nat} {f : Addr} {fd : FuncData} {ps ks : List Str} {sp : Sp} {E : L2.St → XK} {es : List Expr} {kws : List Keyword} {t tk : TA} {g : List Value → List Value → List Value} {gV : List V → List V → List V}
    (F : FnOk X.prog X.w X.K X.mg X.base CX k f fd ps sp) (hr : Room k X.A) (hg : Gl X x) (hm : X.mg x = some (.ref f)) (hk : PySem.W.keepIn X.K (.ref f) = true) (hb : KBn X.K fd ps n ks g gV) (hx : ∀ σ, PassesAt CX X σ (E σ))
    (ha : PA X (e :: es) t) (hkw : PK X kws tk) (hall : (backToKw pos (keywordEach kws X.env)).all (·.1.isSome) = true) (hks : (backToKw pos (keywordEach kws X.env)).filterMap (·.1) = ks)
    (hdb : (x == ("__debug__" : Str)) = false) (he : starEach (e :: es) X.env = (false, eval e X.env) :: starEach es X.env)
    (hpl : ((backTo pos (starEach (e :: es) X.env)).any (·.1) || (backToKw pos (keywordEach kws X.env)).any (·.1.isNone)) = false) :
    PE X (.Call (.Name x p) (e :: es) kws pos) (tCallNS n ks.length sp gV E t tk) := by
  refine ⟨fun pins s σ H Q I h => ?_⟩
  refine wpAny_Call_Name_kw (ld_glob I hg hm ?_ hdb)
  refine PySem.W.callWith_KW (h₀ := X.base) I.ok.mod.kin hk hall (thn (ha.run pos pins s σ H _ I h) fun us s1 ⟨vs, H1, I1, r, q⟩ => ?_) hpl he
  refine thn (hkw.run pos pins s1 σ H1 _ I1 q) fun ws s2 ⟨zs, H2, I2, rz, l1, l2, q2⟩ => ⟨I2.kIn, ?_⟩
  rw [hks]
  have r2 := hb.rel r rz
  refine wpAny_call (codeAny_mono (F.run X.A X.stack s2 H2 ⟨us, ks.zip ws⟩ (g us ws) (gV vs zs) Q (E σ) hr I2.env0 (hb.to s2 us ws I2.kIn (r.length.symm.trans l1) (rz.length.symm.trans l2)) r2 q2) fun r s' hq => ?_)
  cases r with
  | error e => exact hx σ pins H2 s2 e s' I2 hq
  | ok fl =>
    cases fl with
    | ret u => exact I2.after hq
    | next => exact False.elim hq
    | brk => exact False.elim hq
    | cont => exact False.elim hq
/-- f(e, .., k = v, ..): gV puts the values in the parameters' order, pm does so for the data -/
theorem r_callK {k f n : Nat} {fd : FuncData} {ps ks : List Str} {pm : List (Sum Nat D)} {es : List Expr} {kws : List Keyword} {A B : Es} {g : List Value → List Value → List Value} {gV : List V → List V → List V} (tk : Takes X W) (hg : Gl X x) (K : Kn Z X k x (Z.fa f) fd ps (P.S f)) (hb : KBn X.K fd ps n ks g gV)
    (hm : ∀ (φ : Ph) (G : Hp) (ds zs : List D) (vs ws : List V), ds.length = n → zs.length = ks.length → Iss Z φ G ds vs → Iss Z φ G zs ws → ∃ as, pick (ds ++ zs) pm = some as ∧ Iss Z φ G as (gV vs ws) ∧ (gV vs ws).length = ps.length)
    (hlA : ∀ ρ M ds M', evs P A ρ M = .ok ds M' → ds.length = n) (hlB : ∀ ρ M ds M', evs P B ρ M = .ok ds M' → ds.length = ks.length) (ha : RA Z W P X (e :: es) A) (hkw : RK Z W P X kws B)
    (hall : (backToKw pos (keywordEach kws X.env)).all (·.1.isSome) = true) (hks : (backToKw pos (keywordEach kws X.env)).filterMap (·.1) = ks)
    (hdb : (x == ("__debug__" : Str)) = false) (he : starEach (e :: es) X.env = (false, eval e X.env) :: starEach es X.env)
    (hpl : ((backTo pos (starEach (e :: es) X.env)).any (·.1) || (backToKw pos (keywordEach kws X.env)).any (·.1.isNone)) = false) : RE Z W P X (.Call (.Name x p) (e :: es) kws pos) (.call f pm A B) :=
  PE.imp (pe_callNS K.ok K.room hg K.mg K.keep hb (passAt tk) ha hkw hall hks hdb he hpl) fun σ H Q ⟨φ, ρ, M, a, q⟩ => by
    rw [ev] at q
    refine ⟨φ, ρ, M, a, ?_⟩
    cases er : evs P A ρ M with
    | ok ds M1 =>
      rw [er] at q
      have hlen := hlA ρ M ds M1 er
      intro φ1 vs H1 s1 i1
      have q := post.rebase s1 q
      simp only [R.bind_ok] at q
      refine ⟨φ1, ρ, M1, s1.at_ a, ?_⟩
      cases er2 : evs P B ρ M1 with
      | ok zs M2 =>
        rw [er2] at q
        have hlen2 := hlB ρ M1 zs M2 er2
        intro φ2 ws H2 s2 i2
        have q := post.rebase s2 q
        obtain ⟨as, e1, e2, e3⟩ := hm φ2 (out φ2 H2) ds zs vs ws hlen hlen2 (s2.iss i1) i2
        simp only [R.bind_ok, e1, callO] at q
        exact ⟨by rw [← i1.length]; exact hlen, by rw [← i2.length]; exact hlen2, spD_of s2.m e2 e3 q⟩
      | ex c es M2 =>
        rw [er2] at q
        exact q
      | no =>
        rw [er2] at q
        exact q.elim
    | ex c ds M1 =>
      rw [er] at q
      exact q
    | no =>
      rw [er] at q
      exact q.elim
/-- how many values an argument list gives -/
def Es.fix : Es → Option Nat
  | .nil => some 0
  | .cons _ r => r.fix.map (· + 1)
  | .star _ _ => none
theorem fix_len : ∀ {A : Es} {n : Nat} {ρ : Env} {M : Store} {ds : List D} {M' : Store}, A.fix = some n → evs P A ρ M = .ok ds M' → ds.length = n
  | .nil, n, ρ, M, ds, M', h, e => by
    rw [evs] at e
    cases e
    cases h
    rfl
  | .cons B r, n, ρ, M, ds, M', h, e => by
    rw [evs] at e
    simp only [Es.fix, Option.map_eq_some_iff] at h
    obtain ⟨k, hk, rfl⟩ := h
    cases e1 : ev P B ρ M with
    | ok d M1 =>
      rw [e1] at e
      simp only [R.bind_ok] at e
      cases e2 : evs P r ρ M1 with
      | ok es M2 =>
        rw [e2] at e
        cases e
        rw [List.length_cons, fix_len hk e2]
      | ex c es M2 => rw [e2] at e; cases e
      | no => rw [e2] at e; cases e
    | ex c es M2 => rw [e1] at e; cases e
    | no => rw [e1] at e; cases e
  | .star _ _, n, ρ, M, ds, M', h, e => by cases h
/-! ### a def's body -/
/-- what a call gives -/
def F.toR : F → R D
  | .nx _ M => .ok .non M
  | .rt d M => .ok d M
  | .ex c ds _ M => .ex c ds M
  | .bk _ _ => .no
  | .ct _ _ => .no
  | .no => .no
def startE (n : Nat) (ds : List D) : Env := ds.map some ++ List.replicate (n - ds.length) none
theorem repE_start {N : List Str} {ds : List D} {vs : List V} (i : Iss Z φ G ds vs) : RepE Z φ G (startE N.length ds) (L2.start N vs) := by
  refine ⟨by simp [startE, L2.start, i.length], fun j d e => ?_⟩
  unfold startE at e
  unfold L2.start
  by_cases h : j < ds.length
  · rw [List.getElem?_append_left (by simpa using h), List.getElem?_map] at e
    cases e1 : ds[j]? with
    | none => rw [e1] at e; cases e
    | some d1 =>
      rw [e1] at e
      cases e
      obtain ⟨v, k1, k2⟩ := i.get e1
      refine ⟨v, ?_, k2⟩
      rw [List.getElem?_append_left (by rw [List.length_map, ← i.length]; exact h), List.getElem?_map, k1]
      rfl
  · rw [List.getElem?_append_right (by simpa using h), List.getElem?_replicate] at e
    split at e <;> cases e
theorem body_post {r : F} {Q : VK} {E' : XK} (h : post Z (Is Z) (fun cls dx _ H' => E' cls dx H') [] φ H r.toR Q) : postS Z (fun cls d _ H' => E' cls d H') φ H r { nx := fun _ H' => Q .non H', rt := Q } := by
  cases r with
  | nx ρ M => exact fun φ' σ' H' s e => h φ' .non H' s (by rw [Is])
  | rt d M => exact h
  | ex c ds ρ M => exact fun φ' cls dx σ' H' s e i => h φ' cls dx H' s i
  | bk ρ M => exact (show False from h).elim
  | ct ρ M => exact (show False from h).elim
  | no => exact h
end
end DL
end
section
set_option Elab.async false
set_option linter.all false
set_option maxRecDepth 100000
set_option autoImplicit false
set_option maxHeartbeats 4000000
/-! DLS: sorted(e), e a list or a tuple of texts. -/
namespace DL
open PySem PySem.Spec PyProof.Rows L2 LamX
section
variable {Z : Fix} {X : Cx} {φ : Ph} {G H : Hp} {M : Store} {W : WX} {σ : L2.St} {P : Fns} {a : Expr} {A : E} {x : Str} {p p2 pos : Pos}
/-- sorted(x), x a list or a tuple of texts -/
def rSortS (K : PySem.W.Frag) : List V → Hp → VK → Prop := fun xs H Q => ∃ l, ∃ ys : List Str, xs = [.ref l] ∧ (SqL K H l (ys.map V.str) ∨ SqT K H l (ys.map V.str)) ∧
  ∀ (zs : List Str) (p : Addr), PyProof.Rows.sortedS zs = true → zs.Perm ys → H p = none → Q (.ref p) (upd H p (.lst (zs.map V.str)))
theorem sorted_seqS {P : Program} {w : World} {A : Around} {E : Value → Shared → Prop} {s : Shared} {a : Addr} {T : String} {o : Obj} {items : Array Value} {n : Nat} {ss : List Str} {Q : Value → Shared → Prop} (hT : T = "list" ∨ T = "tuple")
    (ho : s.heap.get? a = some o) (hc : o.cls = .type T) (hd : o.data = .seq items n) (hI : PyProof.Rows.StrsAre items.toList ss) (hz : items.size ≤ sizeLine)
    (hQ : ∀ s' p (out : Array Value) (c : Nat) (ns : List Str), (∀ b o, s.heap.get? b = some o → s'.heap.get? b = some o) → s'.gens = s.gens → s'.os = s.os → (∃ h1 : Heap, (∀ b o, s.heap.get? b = some o → h1.get? b = some o) ∧ h1.objs.size = p) →
      s'.heap.get? p = some (seqObj "list" out c) → PyProof.Rows.StrsAre out.toList ns → PyProof.Rows.sortedS ns = true → ns.Perm ss → Q (.ref p) s') :
    wpAny (model P w) A (call (.builtin "sorted") [.ref a]) Q E s := by
  refine Calls.call_function_entry kind_sorted plain_sorted entry_sorted (args_sorted1 _) ?_
  unfold Builtin.«sorted»
  refine wpAny_bind (m := checkCount "sorted" 1 1 _) (wpAny_pure ?_)
  refine wpAny_bind (wpAny_collect_seq a hT ho hc hd (hsz := hz) fun h1 k1 => ?_)
  have hzl : items.toList.length ≤ sizeLine := by rw [Array.length_toList]; exact hz
  refine wpAny_bind (wpAny_newList ?_ hzl)
  have hoL : (h1.push (seqObj "list" items.toList.toArray 0)).get? h1.objs.size = some (seqObj "list" items.toList.toArray 0) := Heap.get?_push_size _ rfl
  refine wpAny_bind (wpAny_holding (wpAny_call_entry slot_list_sort ⟨_, hoL, rfl⟩ entry_list_sort (PyProof.Rows.list_sort_treeKAny PyProof.Rows.strKind_oneLt hoL hI.keysOf (fun v₁ v₂ rest e => PyProof.Rows.keyKind_strs (by rw [← e]; exact hI)) hzl fun st' hp hs => ?_) (args_list_sort _)))
  obtain ⟨ns', a1, a2, a3⟩ := PyProof.Rows.sorted_out_str hI hp hs
  obtain ⟨c, hc'⟩ := sortedHeap_at (vs := items.toList) (out := (arrOf st').map (·.2)) hoL
  refine ⟨_, rfl, wpAny_pure ⟨_, rfl, hQ _ h1.objs.size _ c ns' (fun b u e => ?_) rfl rfl ?_ hc' a1 a3 a2⟩⟩
  · have q := k1 b u e
    have hlt := Heap.lt_size q
    show (sortedHeap (h1.push (seqObj "list" items.toList.toArray 0)) h1.objs.size items.toList _).get? b = some u
    rw [sortedHeap_old (Nat.ne_of_lt hlt) (by rw [size_push']; exact Nat.lt_succ_of_lt hlt)]
    exact Heap.get?_push_of_some _ q
  · exact ⟨h1, k1, rfl⟩
theorem cr_sortS : CallR X (.builtin "sorted") (rSortS X.K) := by
  intro pins s σ H vs us Q I r h
  obtain ⟨l, ys, rfl, hq, q⟩ := h
  rw [Vals.ref1 r]
  have fin : ∀ (s' : Shared) (p : Addr) (out : Array Value) (c : Nat) (ns : List Str), ys.length ≤ sizeLine → (∀ b o, s.heap.get? b = some o → s'.heap.get? b = some o) → s'.gens = s.gens → s'.os = s.os → (∃ h1 : Heap, (∀ b o, s.heap.get? b = some o → h1.get? b = some o) ∧ h1.objs.size = p) →
      s'.heap.get? p = some (seqObj "list" out c) → PyProof.Rows.StrsAre out.toList ns → PyProof.Rows.sortedS ns = true → ns.Perm ys → EP X pins σ Q (.ref p) s' := fun s' p out c ns hl k g o hp hg hi hs hm => by
    have hlen : (ns.map V.str).length ≤ sizeLine := by rw [List.length_map, hm.length_eq]; exact hl
    obtain ⟨h1, k1, ep⟩ := hp
    have hn : H p = none := (I.hok.kept k1).fresh (Nat.le_of_eq ep)
    have hp : s.heap.get? p = none := by
      cases e : s.heap.get? p with
      | none => rfl
      | some u => exact absurd (Heap.lt_size (k1 _ _ e)) (by rw [ep]; exact Nat.lt_irrefl _)
    have J : Inv X pins σ (upd H p (.lst (ns.map V.str))) { s with heap := s'.heap, gens := s'.gens, drawn := s'.drawn, toks := s'.toks } :=
      I.call (ch := []) (Un.laidN k hp hn) (I.hok.laidN k hn ⟨hlen, out.toList, c, vals_of_strs hi, hg⟩) (by rw [g]; exact I.bare) (fun _ z => nomatch z)
    have e : s' = { s with heap := s'.heap, gens := s'.gens, drawn := s'.drawn, toks := s'.toks } := by
      cases s'
      cases s
      cases o
      rfl
    rw [e]
    exact ⟨.ref p, _, J, rfl, q ns p hs hm hn⟩
  rcases hq with hq | hq
  · obtain ⟨its, r, pl, hz⟩ := I.list hq
    obtain ⟨o, n, ho, hc, hd, hs⟩ := pl
    have hz2 : its.toArray.size ≤ sizeLine := by rw [List.size_toArray, ← r.length]; exact hz
    rw [List.length_map] at hz
    exact sorted_seqS (.inl rfl) ho hc hs (by simpa using strsAre_of r) hz2 fun s' p out c ns => fin s' p out c ns hz
  · obtain ⟨its, r, pl, hz⟩ := I.tuple hq
    obtain ⟨o, ho, hc, n, hs⟩ := pl
    have hz2 : its.toArray.size ≤ sizeLine := by rw [List.size_toArray, ← r.length]; exact hz
    rw [List.length_map] at hz
    exact sorted_seqS (.inr rfl) ho hc hs (by simpa using strsAre_of r) hz2 fun s' p out c ns => fin s' p out c ns hz
theorem c1_sorted (hK : X.K = Z.K) : CallR X (.builtin "sorted") (rC1 Z .sorted) := by
  refine CallR.imp cr_sortS fun vs H Q h => ?_
  obtain ⟨x, rfl, φ, M, d, W, σ, m, i, q⟩ := h
  simp only [ev1] at q
  split at q
  · rename_i ds e0
    split at q
    · rename_i xs hs
      have e : rk M d = .lst ds ∨ rk M d = .tup ds := by
        unfold itemsOf at e0
        split at e0
        · rename_i e; cases e0; exact .inr e
        · rename_i e; cases e0; exact .inl e
        · cases e0
      obtain ⟨p, rfl, h1, h2⟩ := strs_seq X.K hK m i e hs
      refine ⟨p, xs.map cs, rfl, h1, fun zs p2 k1 k2 hp2 => ?_⟩
      rw [sortS_is k1 k2, List.map_map]
      refine q.newL m ?_ p2 hp2
      exact Iss.strs fun x hx => h2 x ((sortS_perm xs).mem_iff.mp hx)
    · exact q.elim
  · exact q.elim
theorem r_sorted (g : Gd Z X) (hg : Gl X "sorted") (hm : X.mg "sorted" = none) (ha : RE Z W P X a A) (h1 : starEach [a] X.env = (false, eval a X.env) :: starEach [] X.env) : RE Z W P X (.Call (.Name "sorted" p) [a] [] pos) (.o1 .sorted A) :=
  r_b1 (c1_sorted g.hK) hg hm (by rfl) ha (by decide) (by decide) h1
end
end DL
end
section
set_option Elab.async false
set_option linter.all false
set_option maxRecDepth 100000
set_option autoImplicit false
set_option maxHeartbeats 4000000
/-! DL24: the rules in short: what can be read off the text is read off it. -/
namespace DL
open PySem PySem.Spec PyProof.Rows L2 LamX

section
variable {Z : Fix} {W : WX} {P : Fns} {u : Under} {X : Cx} {e a b c o i tg iter elt : Expr} {A B C E : E} {pos p p2 p3 tpos spos apos cpos kpos : Pos} {x : Str}
theorem v_ {i : Nat} (hN : X.N[i]? = some x := by rfl) (hv : Vis X.env.scope x := by first | exact Or.inl rfl | exact Or.inr (Or.inl rfl) | exact Or.inr (Or.inr rfl)) (hd : (x == ("__debug__" : Str)) = false := by decide) (hc : (x == ("__classdict__" : Str)) = false := by decide) : RE Z W P X (.Name x pos) (.v i) := r_v hN hv hd hc
theorem str_ {x : Str} {y : List Nat} {j : Nat} (h : (decide (x = cs y) && y.all (fun c => decide (c < 1114112))) = true := by decide +kernel) : RE Z W P X (.Constant (.str x) j pos) (.c (.str y)) := r_str h
section
variable (g : Gd Z X)
include g
theorem u65 : X.A.units + 65 < cLine := by have := g.room; omega
theorem u64 : X.A.units + 64 < cLine := by have := g.room; omega
theorem add_ (ha : RE Z W P X a A) (hb : RE Z W P X b B) : RE Z W P X (.BinOp a .Add b pos) (.o2 .add A B) := r_bin (o2_add g.hK) ha hb
theorem sub_ (ha : RE Z W P X a A) (hb : RE Z W P X b B) : RE Z W P X (.BinOp a .Sub b pos) (.o2 .sub A B) := r_bin o2_sub ha hb
theorem mul_ (ha : RE Z W P X a A) (hb : RE Z W P X b B) : RE Z W P X (.BinOp a .Mult b pos) (.o2 .mul A B) := r_bin o2_mul ha hb
theorem fdiv_ (ha : RE Z W P X a A) (hb : RE Z W P X b B) : RE Z W P X (.BinOp a .FloorDiv b pos) (.o2 .fdiv A B) := r_bin o2_fdiv ha hb
theorem mod_ (ha : RE Z W P X a A) (hb : RE Z W P X b B) : RE Z W P X (.BinOp a .Mod b pos) (.o2 .mod A B) := r_bin o2_mod ha hb
theorem pow_ (ha : RE Z W P X a A) (hb : RE Z W P X b B) : RE Z W P X (.BinOp a .Pow b pos) (.o2 .pow A B) := r_bin o2_pow ha hb
theorem eq_ (ha : RE Z W P X a A) (hb : RE Z W P X b B) : RE Z W P X (.Compare a [.Eq] [b] pos) (.o2 .eq A B) := r_cmp (o2_eq g.hK (u64 g)) ha hb (nomark _)
theorem ne_ (ha : RE Z W P X a A) (hb : RE Z W P X b B) : RE Z W P X (.Compare a [.NotEq] [b] pos) (.o2 .ne A B) := r_cmp (o2_ne g.hK (u64 g)) ha hb (nomark _)
theorem lt_ (ha : RE Z W P X a A) (hb : RE Z W P X b B) : RE Z W P X (.Compare a [.Lt] [b] pos) (.o2 .lt A B) := r_cmp o2_lt ha hb (nomark _)
theorem le_ (ha : RE Z W P X a A) (hb : RE Z W P X b B) : RE Z W P X (.Compare a [.LtE] [b] pos) (.o2 .le A B) := r_cmp o2_le ha hb (nomark _)
theorem gt_ (ha : RE Z W P X a A) (hb : RE Z W P X b B) : RE Z W P X (.Compare a [.Gt] [b] pos) (.o2 .gt A B) := r_cmp o2_gt ha hb (nomark _)
theorem ge_ (ha : RE Z W P X a A) (hb : RE Z W P X b B) : RE Z W P X (.Compare a [.GtE] [b] pos) (.o2 .ge A B) := r_cmp o2_ge ha hb (nomark _)
theorem in_ (ha : RE Z W P X a A) (hb : RE Z W P X b B) (hm : behindInMarks .In b = false := by rfl) : RE Z W P X (.Compare a [.In] [b] pos) (.o2 .isin A B) := r_cmp (o2_in g.hK (u65 g)) ha hb hm
theorem nin_ (ha : RE Z W P X a A) (hb : RE Z W P X b B) (hm : behindInMarks .NotIn b = false := by rfl) : RE Z W P X (.Compare a [.NotIn] [b] pos) (.o2 .notin A B) := r_cmp (o2_notin g.hK (u65 g)) ha hb hm
theorem is_ (ha : RE Z W P X a A) (hb : RE Z W P X b B) : RE Z W P X (.Compare a [.Is] [b] pos) (.o2 .isN A B) := r_cmp o2_isN ha hb (nomark _)
theorem isn_ (ha : RE Z W P X a A) (hb : RE Z W P X b B) : RE Z W P X (.Compare a [.IsNot] [b] pos) (.o2 .notN A B) := r_cmp o2_notN ha hb (nomark _)
theorem teq_ (ha : RE Z W P X a A) (hb : RE Z W P X b B) : RT Z W P X (.Compare a [.Eq] [b] pos) (.o2 .eq A B) := t_cmp (o2_eq g.hK (u64 g)) rfl ha hb (nomark _)
theorem tne_ (ha : RE Z W P X a A) (hb : RE Z W P X b B) : RT Z W P X (.Compare a [.NotEq] [b] pos) (.o2 .ne A B) := t_cmp (o2_ne g.hK (u64 g)) rfl ha hb (nomark _)
theorem tlt_ (ha : RE Z W P X a A) (hb : RE Z W P X b B) : RT Z W P X (.Compare a [.Lt] [b] pos) (.o2 .lt A B) := t_cmp o2_lt rfl ha hb (nomark _)
theorem tle_ (ha : RE Z W P X a A) (hb : RE Z W P X b B) : RT Z W P X (.Compare a [.LtE] [b] pos) (.o2 .le A B) := t_cmp o2_le rfl ha hb (nomark _)
theorem tgt_ (ha : RE Z W P X a A) (hb : RE Z W P X b B) : RT Z W P X (.Compare a [.Gt] [b] pos) (.o2 .gt A B) := t_cmp o2_gt rfl ha hb (nomark _)
theorem tge_ (ha : RE Z W P X a A) (hb : RE Z W P X b B) : RT Z W P X (.Compare a [.GtE] [b] pos) (.o2 .ge A B) := t_cmp o2_ge rfl ha hb (nomark _)
theorem tin_ (ha : RE Z W P X a A) (hb : RE Z W P X b B) (hm : behindInMarks .In b = false := by rfl) : RT Z W P X (.Compare a [.In] [b] pos) (.o2 .isin A B) := t_cmp (o2_in g.hK (u65 g)) rfl ha hb hm
theorem tnin_ (ha : RE Z W P X a A) (hb : RE Z W P X b B) (hm : behindInMarks .NotIn b = false := by rfl) : RT Z W P X (.Compare a [.NotIn] [b] pos) (.o2 .notin A B) := t_cmp (o2_notin g.hK (u65 g)) rfl ha hb hm
theorem tis_ (ha : RE Z W P X a A) (hb : RE Z W P X b B) : RT Z W P X (.Compare a [.Is] [b] pos) (.o2 .isN A B) := t_cmp o2_isN rfl ha hb (nomark _)
theorem tisn_ (ha : RE Z W P X a A) (hb : RE Z W P X b B) : RT Z W P X (.Compare a [.IsNot] [b] pos) (.o2 .notN A B) := t_cmp o2_notN rfl ha hb (nomark _)
theorem tv_ (ha : RE Z W P X a A) (hA : isPlain A = true := by rfl) (he : ∀ whole, isTrue a X.env whole = (do let v ← whole; standAt a.pos; holding [v] (truthy v)) := by intro _; rfl) : RT Z W P X a A := t_val g ha (plainT_of hA) he
theorem ix_ (ha : RE Z W P X a A) (hb : RE Z W P X b B) (hs : PlainIx b := by exact fun _ _ => rfl) : RE Z W P X (.Subscript a b pos) (.o2 .ix A B) := r_ix g ha hb hs
theorem cheq_ (ha : RE Z W P X a A) (hb : RE Z W P X b B) (hc : RE Z W P X c C) : RE Z W P X (.Compare a [.Eq, .Eq] [b, c] pos) (.chain .eq .eq A B C) :=
  r_chain (o2_eq g.hK (u64 g)) (o2_eq g.hK (u64 g)) rfl ha hb hc (by show behindInMarks .Eq c = false; exact nomark _)
end
theorem tw_ (h : RW Z W P X e A) : RT Z W P X e A := h.pt
theorem acons_ {es : List Expr} {A : Es} {B : DL.E} (ha : RE Z W P X e B) (hr : RA Z W P X es A) (hs : starEach (e :: es) X.env = (false, eval e X.env) :: starEach es X.env := by rfl) : RA Z W P X (e :: es) (.cons B A) := ra_cons ha hr hs
theorem astar_ {es : List Expr} {A : Es} {B : DL.E} (g : Gd Z X) (ha : RE Z W P X e B) (hr : RA Z W P X es A) (hs : starEach (.Starred e p :: es) X.env = (true, eval e X.env) :: starEach es X.env := by rfl) : RA Z W P X (.Starred e p :: es) (.star B A) := ra_star g ha hr hs
/-- the names of the built-ins stand free -/
structure Bl (mg : Str → Option Value) : Prop where
  len : mg "len" = none
  tuple : mg "tuple" = none
  list : mg "list" = none
  int : mg "int" = none
  str : mg "str" = none
  bool : mg "bool" = none
  all : mg "all" = none
  any : mg "any" = none
  sum : mg "sum" = none
  set : mg "set" = none
  sorted : mg "sorted" = none
  range : mg "range" = none
  enumerate : mg "enumerate" = none
  zip : mg "zip" = none
  isinstance : mg "isinstance" = none
section
variable (g : Gd Z X) (B0 : Bl X.mg)
include g B0
theorem len_ (ha : RE Z W P X a A) (hg : Gl X "len" := by rfl) (h1 : starEach [a] X.env = (false, eval a X.env) :: starEach [] X.env := by rfl) : RE Z W P X (.Call (.Name "len" p) [a] [] pos) (.o1 .len A) := r_b1 (c1_len g.hK) hg B0.len (by rfl) ha (by decide) (by decide) h1
theorem all_ (ha : RE Z W P X a A) (hg : Gl X "all" := by rfl) (h1 : starEach [a] X.env = (false, eval a X.env) :: starEach [] X.env := by rfl) : RE Z W P X (.Call (.Name "all" p) [a] [] pos) (.o1 .all A) := r_b1 (c1_all g.hK g.calm) hg B0.all (by rfl) ha (by decide) (by decide) h1
theorem any_ (ha : RE Z W P X a A) (hg : Gl X "any" := by rfl) (h1 : starEach [a] X.env = (false, eval a X.env) :: starEach [] X.env := by rfl) : RE Z W P X (.Call (.Name "any" p) [a] [] pos) (.o1 .any A) := r_b1 (c1_any g.hK g.calm) hg B0.any (by rfl) ha (by decide) (by decide) h1
theorem sum_ (ha : RE Z W P X a A) (hg : Gl X "sum" := by rfl) (h1 : starEach [a] X.env = (false, eval a X.env) :: starEach [] X.env := by rfl) : RE Z W P X (.Call (.Name "sum" p) [a] [] pos) (.o1 .sum A) := r_b1 (c1_sum g.hK g.calm) hg B0.sum (by rfl) ha (by decide) (by decide) h1
theorem int_ (ha : RE Z W P X a A) (hg : Gl X "int" := by rfl) (h1 : starEach [a] X.env = (false, eval a X.env) :: starEach [] X.env := by rfl) : RE Z W P X (.Call (.Name "int" p) [a] [] pos) (.o1 .int A) := r_t1 c1_int hg B0.int (by rfl) ha (by decide) (by decide) h1
theorem tuple_ (ha : RE Z W P X a A) (hg : Gl X "tuple" := by rfl) (h1 : starEach [a] X.env = (false, eval a X.env) :: starEach [] X.env := by rfl) : RE Z W P X (.Call (.Name "tuple" p) [a] [] pos) (.o1 .tuple A) := r_t1 (c1_tuple g.hK g.calm) hg B0.tuple (by rfl) ha (by decide) (by decide) h1
theorem tupleK_ (ha : RE Z W P X a A) (hg : Gl X "tuple" := by rfl) (h1 : starEach [a] X.env = (false, eval a X.env) :: starEach [] X.env := by rfl) : RE Z W P X (.Call (.Name "tuple" p) [a] [] pos) (.o1 .tupleK A) := r_t1 (c1_tupleK g.hK) hg B0.tuple (by rfl) ha (by decide) (by decide) h1
theorem list_ (ha : RE Z W P X a A) (hg : Gl X "list" := by rfl) (h1 : starEach [a] X.env = (false, eval a X.env) :: starEach [] X.env := by rfl) : RE Z W P X (.Call (.Name "list" p) [a] [] pos) (.o1 .list A) := r_t1 (c1_list g.hK) hg B0.list (by rfl) ha (by decide) (by decide) h1
theorem sset_ {q : Pos} (ha : RE Z W P X a A) (hg : Gl X "sorted" := by rfl) (hg2 : Gl X "set" := by rfl) (h1 : starEach [a] X.env = (false, eval a X.env) :: starEach [] X.env := by rfl) : RE Z W P X (.Call (.Name "sorted" p) [.Call (.Name "set" p2) [a] [] q] [] pos) (.o1 .sortedSet A) := r_sortedSet g hg B0.sorted hg2 B0.set ha h1
theorem sorted_ (ha : RE Z W P X a A) (hg : Gl X "sorted" := by rfl) (h1 : starEach [a] X.env = (false, eval a X.env) :: starEach [] X.env := by rfl) : RE Z W P X (.Call (.Name "sorted" p) [a] [] pos) (.o1 .sorted A) := r_sorted g hg B0.sorted ha h1
theorem lset_ {q : Pos} (ha : RE Z W P X a A) (hg : Gl X "len" := by rfl) (hg2 : Gl X "set" := by rfl) (h1 : starEach [a] X.env = (false, eval a X.env) :: starEach [] X.env := by rfl) : RE Z W P X (.Call (.Name "len" p) [.Call (.Name "set" p2) [a] [] q] [] pos) (.o1 .lenSet A) := r_lenSet g hg B0.len hg2 B0.set ha h1
theorem isa_ {y : Str} {n : String} (hm2 : X.mg y = none) (hn : n ∈ tyNames.tail := by decide) (ha : RE Z W P X a A) (hg : Gl X "isinstance" := by rfl) (hg2 : Gl X y := by rfl) (hv2 : bootBuiltins y = some (.type n) := by rfl) (hn2 : y ≠ "__name__" := by decide) (hd2 : (y == ("__debug__" : Str)) = false := by decide)
    (h1 : starEach [a, .Name y p2] X.env = (false, eval a X.env) :: starEach [.Name y p2] X.env := by rfl) : RE Z W P X (.Call (.Name "isinstance" p) [a, .Name y p2] [] pos) (.o1 (.isT n) A) := r_isT g hn hg B0.isinstance hg2 hm2 hv2 hn2 hd2 ha h1
theorem rng1_ (ha : RE Z W P X a A) (hg : Gl X "range" := by rfl) (hs : starEach [a] X.env = (false, eval a X.env) :: starEach [] X.env := by rfl) (hs' : starEach [a] X.env = [(false, eval a X.env)] := by rfl) : RI Z W P X tg (.Call (.Name "range" p) [a] [] pos) (.rng1 A) := i_rng1 g hg B0.range ha hs hs'
theorem rng2_ (ha : RE Z W P X a A) (hb : RE Z W P X b B) (hg : Gl X "range" := by rfl) (hs : starEach [a, b] X.env = (false, eval a X.env) :: starEach [b] X.env := by rfl) (hs2 : starEach [b] X.env = (false, eval b X.env) :: starEach [] X.env := by rfl)
    (hs' : starEach [a, b] X.env = [(false, eval a X.env), (false, eval b X.env)] := by rfl) (hs2' : starEach [b] X.env = [(false, eval b X.env)] := by rfl) : RI Z W P X tg (.Call (.Name "range" p) [a, b] [] pos) (.rng2 A B) := i_rng2 g hg B0.range ha hb hs hs2 hs' hs2'
theorem enm_ {elts : List Expr} {kk : Nat} (ha : RE Z W P X a A) (hg : Gl X "enumerate" := by rfl) (hs : starEach [a] X.env = (false, eval a X.env) :: starEach [] X.env := by rfl) (hs' : starEach [a] X.env = [(false, eval a X.env)] := by rfl) : RI Z W P X (.Tuple elts kk tpos) (.Call (.Name "enumerate" p) [a] [] pos) (.enm A) := i_enm g hg B0.enumerate ha hs hs'
theorem zip_ {elts : List Expr} {kk : Nat} (ha : RE Z W P X a A) (hb : RE Z W P X b B) (hg : Gl X "zip" := by rfl) (hs : starEach [a, b] X.env = (false, eval a X.env) :: starEach [b] X.env := by rfl) (hs2 : starEach [b] X.env = (false, eval b X.env) :: starEach [] X.env := by rfl)
    (hpl : (backTo pos (starEach [b] X.env)).any (·.1) = false := by rfl) : RI Z W P X (.Tuple elts kk tpos) (.Call (.Name "zip" p) [a, b] [] pos) (.zip A B) := i_zip g hg B0.zip ha hb hs hs2 hpl
end
theorem nm_ {i : Nat} (g : Gd Z X) (hi : X.N[i]? = some x := by rfl) (hx : Loc X.env.scope x := by first | exact Or.inl rfl | exact Or.inr rfl) (hf : X.fn x = true ∨ X.env.scope.names.lookup x = some .local := by first | exact .inl rfl | exact .inr rfl) : RG Z X (.Name x pos) (.nm i) := g_nm g.nd hi hx hf
theorem gcons_ {es : List Expr} {t : T} {ts : Ts} (h1 : RG Z X e t) (h2 : RGs Z X es ts) (hs : (assignEach (e :: es) X.env).map (·.2) = assign e X.env :: (assignEach es X.env).map (·.2) := by rfl) : RGs Z X (e :: es) (.cons t ts) := gs_cons h1 h2 hs
theorem tp_ {es : List Expr} {k : Nat} {ts : Ts} (g : Gd Z X) (h : RGs Z X es ts) (hn : (assignEach es X.env).length = ts.len := by rfl) (hst : (assignEach es X.env).findIdx? (·.1) = none := by rfl) : RG Z X (.Tuple es k pos) (.tp ts) := g_tp g h hn hst (put_len ts)
theorem lc_ {mu : Bool} {ifs : List Expr} {scope : Scope} (own : List (Str × Nat)) {t : T} {it : I} {cd : Es} (g : Gd Z X) (hi : RI Z W P X tg iter it) (hg : ∀ (s : Shared) (H : Hp) (C : Addr) (cl : List (Str × Addr)) (fp : List Addr), RG Z (X.blk s H scope (compEnvC scope cl C X.env) fp) tg t)
    (ht : ∀ (s : Shared) (H : Hp) (C : Addr) (cl : List (Str × Addr)) (fp : List Addr), RC Z WF P (X.blk s H scope (compEnvC scope cl C X.env) fp) ifs cd)
    (he : ∀ (s : Shared) (H : Hp) (C : Addr) (cl : List (Str × Addr)) (fp : List Addr), RE Z WF P (X.blk s H scope (compEnvC scope cl C X.env) fp) elt A)
    (ok : blkC X.N X.env.scope scope own = true := by rfl) (hsl : (t.slots.all fun i => (own.map (·.2)).contains i) = true := by rfl)
    (hs : ∀ x, foldedSetIterable iter X.env x = pure x := by intro _; rfl) : RE Z W P X (.ListComp elt [⟨tg, iter, ifs, 0⟩] scope pos) (.lc mu (own.map (·.2)) t it cd A) :=
  r_lc g hi (blkOk_by ok) (fun i h => by have := List.all_eq_true.mp hsl i h; simpa using this) hg ht he hs
theorem slc_ {i : Nat} {mu : Bool} {ifs : List Expr} {scope : Scope} (own : List (Str × Nat)) {t : T} {it : I} {cd : Es} (g : Gd Z X) (hi : RI Z W P X tg iter it)
    (hg : ∀ (s : Shared) (H : Hp) (C : Addr) (cl : List (Str × Addr)) (fp : List Addr), RG Z (X.blk s H scope (compEnvC scope cl C X.env) fp) tg t)
    (ht : ∀ (s : Shared) (H : Hp) (C : Addr) (cl : List (Str × Addr)) (fp : List Addr), RC Z WF P (X.blk s H scope (compEnvC scope cl C X.env) fp) ifs cd)
    (he : ∀ (s : Shared) (H : Hp) (C : Addr) (cl : List (Str × Addr)) (fp : List Addr), RE Z WF P (X.blk s H scope (compEnvC scope cl C X.env) fp) elt A)
    (hy : X.N[i]? = some x := by rfl) (hyl : X.env.scope.names.lookup x = some .local := by rfl)
    (hsw : swapsWith (.ListComp elt [⟨tg, iter, ifs, 0⟩] scope pos) (some (.Name x p)) spos.line X.env = pure true := by rfl)
    (ok : blkC X.N X.env.scope scope own = true := by rfl) (hsl : (t.slots.all fun i => (own.map (·.2)).contains i) = true := by rfl)
    (hs : ∀ x, foldedSetIterable iter X.env x = pure x := by intro _; rfl) : RS Z W P u X (.Assign [.Name x p] (.ListComp elt [⟨tg, iter, ifs, 0⟩] scope pos) spos) (.asg (.nm i) (.lc mu (own.map (·.2)) t it cd A)) :=
  s_lc g hy hyl hsw hi (blkOk_by ok) (fun i h => by have := List.all_eq_true.mp hsl i h; simpa using this) hg ht he hs
theorem for_ {body : List Stmt} {t : T} {it : I} {b : Ss} (g : Gd Z X) (hp : PassesOwn (model X.prog X.w) X.A X.env X.xe) (hi : RI Z W P X tg iter it) (hg : RG Z X tg t) (hb : RSs Z W P u X body b)
    (hs : ∀ x, foldedSetIterable iter X.env x = pure x := by intro _; rfl) : RS Z W P u X (.For tg iter body [] pos) (.for_ t it b) := s_for hp g hi hg hb hs
theorem asg_ {t : T} (he : RE Z W P X e A) (hg : RG Z X tg t) (hs : swapsWithSole [tg] e pos.line X.env = pure false := by rfl) (hw : swappedStores [tg] e X.env = pure none := by rfl) (h1 : (assignEach [tg] X.env).map (·.2) = [assign tg X.env] := by rfl) :
    RS Z W P u X (.Assign [tg] e pos) (.asg t A) := s_asg he hg hs hw h1
theorem ex_ (h : RE Z W P X e A) (hs : swapsWith e none pos.line X.env = pure false := by rfl) : RS Z W P u X (.Expr e pos) (.ex A) := s_ex h hs
theorem par2_ {i j : Nat} {y : Str} {px py pt pt2 : Pos} {kt k2 : Nat} {A : Es} (g : Gd Z X) (ha : RA Z W P X [a, b] A) (hi : X.N[i]? = some x := by rfl) (hj : X.N[j]? = some y := by rfl) (hij : i ≠ j := by decide)
    (hx : X.env.scope.names.lookup x = some .local := by rfl) (hy : X.env.scope.names.lookup y = some .local := by rfl)
    (hw : swappedStores [.Tuple [.Name x px, .Name y py] kt pt] (.Tuple [a, b] k2 pt2) X.env = pure (some [x, y]) := by rfl)
    (hs : swapsWithSole [.Tuple [.Name x px, .Name y py] kt pt] (.Tuple [a, b] k2 pt2) pos.line X.env = pure false := by rfl) :
    RS Z W P u X (.Assign [.Tuple [.Name x px, .Name y py] kt pt] (.Tuple [a, b] k2 pt2) pos) (.par [i, j] A) := s_par2 g hi hj hij hx hy ha hw hs
theorem par3_ {i j l : Nat} {y z : Str} {px py pz pt pt2 : Pos} {kt k2 : Nat} {A : Es} (g : Gd Z X) (ha : RA Z W P X [a, b, c] A) (hi : X.N[i]? = some x := by rfl) (hj : X.N[j]? = some y := by rfl) (hl : X.N[l]? = some z := by rfl) (hij : i ≠ j := by decide) (hil : i ≠ l := by decide) (hjl : j ≠ l := by decide)
    (hx : X.env.scope.names.lookup x = some .local := by rfl) (hy : X.env.scope.names.lookup y = some .local := by rfl) (hz : X.env.scope.names.lookup z = some .local := by rfl)
    (hw : swappedStores [.Tuple [.Name x px, .Name y py, .Name z pz] kt pt] (.Tuple [a, b, c] k2 pt2) X.env = pure (some [x, y, z]) := by rfl)
    (hs : swapsWithSole [.Tuple [.Name x px, .Name y py, .Name z pz] kt pt] (.Tuple [a, b, c] k2 pt2) pos.line X.env = pure false := by rfl) :
    RS Z W P u X (.Assign [.Tuple [.Name x px, .Name y py, .Name z pz] kt pt] (.Tuple [a, b, c] k2 pt2) pos) (.par [i, j, l] A) := s_par3 g hi hj hl hij hil hjl hx hy hz ha hw hs
end
end DL
end
section
set_option Elab.async false
set_option linter.all false
set_option maxRecDepth 100000
set_option autoImplicit false
set_option maxHeartbeats 4000000
/-! DL25: the table of the defs; calls by it. -/
namespace DL
open PySem PySem.Spec PyProof.Rows L2 LamX

section
variable {Z : Fix} {W : WX} {P : Fns} {u : Under} {X : Cx} {φ : Ph} {H : Hp} {M : Store} {σ : L2.St} {e a b c o i o2 i2 tg iter elt : Expr} {A B C A2 B2 D2 : E} {pos p p2 p3 tpos spos apos cpos kpos : Pos} {x : Str}
theorem r_lof (g : Gd Z X) (hg : Gl X "list") (hm : X.mg "list" = none) (ha : RE Z W P X a A) (h1 : starEach [a] X.env = (false, eval a X.env) :: starEach [] X.env) : RE Z W P X (.Call (.Name "list" p) [a] [] pos) (.lof A) :=
  PE.imp (pe_callTy call_list_of hg hm (by rfl) (pa_cons ha pa_nil h1) (he := h1)) fun σ H Q ⟨φ, ρ, M, a, q⟩ => by
    rw [ev] at q
    refine (tE.bind a q).mono fun x H1 ⟨φ1, M1, d, a1, s1, i, q1⟩ => ?_
    cases h : itemsOf M1 d with
    | none => rw [h] at q1; exact q1.elim
    | some xs =>
      rw [h] at q1
      simp only at q1
      unfold itemsOf at h
      split at h
      · rename_i e
        cases h
        obtain ⟨p, vs, rfl, h1, h2⟩ := rv_tupK a1.m i e
        exact ⟨p, vs, rfl, .inr (by rw [g.hK]; exact sqT_out h1), q1.newO a1.m ⟨vs, rfl, h2⟩⟩
      · rename_i e
        cases h
        obtain ⟨p, vs, rfl, h1, h2⟩ := rv_lstK a1.m i e
        exact ⟨p, vs, rfl, .inl (SqL.of h1), q1.newO a1.m ⟨vs, rfl, h2⟩⟩
      · cases h
theorem lof_ (g : Gd Z X) (B0 : Bl X.mg) (ha : RE Z W P X a A) (hg : Gl X "list" := by rfl) (h1 : starEach [a] X.env = (false, eval a X.env) :: starEach [] X.env := by rfl) : RE Z W P X (.Call (.Name "list" p) [a] [] pos) (.lof A) := r_lof g hg B0.list ha h1
theorem join_ {y : Str} {j : Nat} {ys : List Nat} (g : Gd Z X) (he : RE Z W P X e A) (h : (decide (y = cs ys) && ys.all (fun c => decide (c < 1114112))) = true := by decide +kernel) (hs : starEach [e] X.env = [(false, eval e X.env)] := by rfl)
    (hbase : attributeBase (.Constant (.str y) j p) "join" X.env (eval (.Constant (.str y) j p) X.env) = eval (.Constant (.str y) j p) X.env := by rfl)
    (hline : (apos.endLine == pos.line) = true := by rfl) : RE Z W P X (.Call (.Attribute (.Constant (.str y) j p) "join" apos) [e] [] pos) (.o2 .join (.c (.str ys)) A) := r_join g h he hs hbase hline
theorem tix_ (g : Gd Z X) (ho : RE Z W P X o A) (he : RE Z W P X e B) (hbase : attributeBase o "index" X.env (eval o X.env) = eval o X.env := by rfl)
    (hfew : ((backTo cpos (starEach [e] X.env)).all (fun x => !x.1) && (backToKw cpos (keywordEach [] X.env)).all (fun x => x.1.isSome) && decide (([e] : List Expr).length + ([] : List Keyword).length + (if ([] : List Keyword).isEmpty then 0 else 1) < 30)) = true := by rfl)
    (hline : (apos.endLine == cpos.line) = true := by rfl) (hs : starEach [e] X.env = (false, eval e X.env) :: starEach [] X.env := by rfl) (hpl : (backTo cpos (starEach [] X.env)).any (·.1) = false := by rfl) :
    RE Z W P X (.Call (.Attribute o "index" apos) [e] [] cpos) (.idx true A B) := r_indexT g ho he hbase hfew hline hs hpl
theorem app_ (g : Gd Z X) (ho : RE Z W P X o A) (he : RE Z W P X e B) (hbase : attributeBase o "append" X.env (eval o X.env) = eval o X.env := by rfl)
    (hfew : ((backTo cpos (starEach [e] X.env)).all (fun x => !x.1) && (backToKw cpos (keywordEach [] X.env)).all (fun x => x.1.isSome) && decide (([e] : List Expr).length + ([] : List Keyword).length + (if ([] : List Keyword).isEmpty then 0 else 1) < 30)) = true := by rfl)
    (hline : (apos.endLine == cpos.line) = true := by rfl) (hs : starEach [e] X.env = (false, eval e X.env) :: starEach [] X.env := by rfl) (hpl : (backTo cpos (starEach [] X.env)).any (·.1) = false := by rfl)
    (hsw : swapsWith (.Call (.Attribute o "append" apos) [e] [] cpos) none pos.line X.env = pure false := by rfl) : RS Z W P u X (.Expr (.Call (.Attribute o "append" apos) [e] [] cpos) pos) (.app A B) := s_app g ho he hbase hfew hline hs hpl hsw
theorem sub_st (g : Gd Z X) (ho : RE Z W P X o A) (hi : RE Z W P X i B) (he : RE Z W P X e C)
    (ha : ∀ v, assign (.Subscript o i p) X.env v = (do
      let ov ← holding [v] (eval o X.env)
      let iv ← holding [v, ov] (eval i X.env)
      standAt p
      holding [v, ov, iv] (setItem ov iv v)
      release [v, ov, iv] []) := by intro _; rfl)
    (hs : swapsWithSole [.Subscript o i p] e pos.line X.env = pure false := by rfl) (hw : swappedStores [.Subscript o i p] e X.env = pure none := by rfl) (h1 : (assignEach [.Subscript o i p] X.env).map (·.2) = [assign (.Subscript o i p) X.env] := by rfl) :
    RS Z W P u X (.Assign [.Subscript o i p] e pos) (.sub A B C) := s_sub g ho hi he ha hs hw h1
theorem sub2_ {k k2 : Nat} {pt pt2 : Pos} (g : Gd Z X) (ho : RE Z W P X o A) (hi : RE Z W P X i B) (ho2 : RE Z W P X o2 A2) (hi2 : RE Z W P X i2 B2) (h1 : RE Z W P X a C) (h2 : RE Z W P X b D2)
    (ha : ∀ v, assign (.Subscript o i p) X.env v = (do
      let ov ← holding [v] (eval o X.env)
      let iv ← holding [v, ov] (eval i X.env)
      standAt p
      holding [v, ov, iv] (setItem ov iv v)
      release [v, ov, iv] []) := by intro _; rfl)
    (ha2 : ∀ v, assign (.Subscript o2 i2 p2) X.env v = (do
      let ov ← holding [v] (eval o2 X.env)
      let iv ← holding [v, ov] (eval i2 X.env)
      standAt p2
      holding [v, ov, iv] (setItem ov iv v)
      release [v, ov, iv] []) := by intro _; rfl)
    (e1 : starEach [a, b] X.env = (false, eval a X.env) :: starEach [b] X.env := by rfl) (e2 : starEach [b] X.env = (false, eval b X.env) :: starEach [] X.env := by rfl)
    (c1 : (assignEach [.Subscript o i p, .Subscript o2 i2 p2] X.env).map (·.2) = assign (.Subscript o i p) X.env :: (assignEach [.Subscript o2 i2 p2] X.env).map (·.2) := by rfl)
    (c2 : (assignEach [.Subscript o2 i2 p2] X.env).map (·.2) = assign (.Subscript o2 i2 p2) X.env :: (assignEach [] X.env).map (·.2) := by rfl)
    (hn : (assignEach [.Subscript o i p, .Subscript o2 i2 p2] X.env).length = 2 := by rfl) (hst : (assignEach [.Subscript o i p, .Subscript o2 i2 p2] X.env).findIdx? (·.1) = none := by rfl)
    (hs : swapsWithSole [.Tuple [.Subscript o i p, .Subscript o2 i2 p2] k pt] (.Tuple [a, b] k2 pt2) pos.line X.env = pure false := by rfl) (hw : swappedStores [.Tuple [.Subscript o i p, .Subscript o2 i2 p2] k pt] (.Tuple [a, b] k2 pt2) X.env = pure none := by rfl)
    (h1' : (assignEach [.Tuple [.Subscript o i p, .Subscript o2 i2 p2] k pt] X.env).map (·.2) = [assign (.Tuple [.Subscript o i p, .Subscript o2 i2 p2] k pt) X.env] := by rfl) :
    RS Z W P u X (.Assign [.Tuple [.Subscript o i p, .Subscript o2 i2 p2] k pt] (.Tuple [a, b] k2 pt2) pos) (.sub2 A B A2 B2 C D2) := s_sub2 g ho hi ho2 hi2 h1 h2 ha ha2 e1 e2 c1 c2 hn hst hs hw h1'
/-! ### the table -/
def idPm (n : Nat) : List (Sum Nat D) := (List.range n).map .inl
theorem pick_from : ∀ (n k : Nat) (ds : List D), ds.length = k + n → pick ds ((List.range' k n).map .inl) = some (ds.drop k)
  | 0, k, ds, h => by
    simp only [List.range'_zero, List.map_nil, pick]
    rw [List.drop_eq_nil_of_le (by omega)]
  | n + 1, k, ds, h => by
    rw [List.range'_succ]
    have hk : k < ds.length := by omega
    simp only [List.map_cons, pick, List.getElem?_eq_getElem hk, pick_from n (k + 1) ds (by omega)]
    rw [List.drop_eq_getElem_cons hk]
theorem pick_id {n : Nat} {ds : List D} (h : ds.length = n) : pick ds (idPm n) = some ds := by
  have := pick_from n 0 ds (by omega)
  unfold idPm
  rw [List.range_eq_range', this]
  rfl
/-- one def: its name, its parameters' names -/
structure TpF (Z : Fix) (P : Program) (w : World) (K : PySem.W.Frag) (mg : Str → Option Value) (base : Heap) (k : Nat) (Pf : Fns) (i : Nat) (x : Str) (ps : List Str) (fd : FuncData) : Prop where
  ok : FnOk P w K mg base (L2.CX P w) k (Z.fa i) fd ps (spD Z ps.length (Pf.S i))
  mg : mg x = some (.ref (Z.fa i))
  keep : PySem.W.keepIn K (.ref (Z.fa i)) = true
structure Tp (Z : Fix) (P : Program) (w : World) (K : PySem.W.Frag) (mg : Str → Option Value) (base : Heap) (k : Nat) (Pf : Fns) (tb : List (Str × List Str)) (gt : List (Str × D)) : Prop where
  hK : K = Z.K
  bl : Bl mg
  fn : ∀ (i : Nat) (x : Str) (ps : List Str), tb[i]? = some (x, ps) → x ≠ "" → ∃ fd, TpF Z P w K mg base k Pf i x ps fd ∧ Binds K fd ps []
  gs : ∀ (i : Nat) (x : Str) (d : D), gt[i]? = some (x, d) → Pf.G i = some d ∧ ∃ v u, mg x = some u ∧ RelV v u ∧ ∀ φ G, Is Z φ G d v
theorem gd_of {P : Program} {w : World} {K : PySem.W.Frag} {mg : Str → Option Value} {base : Heap} {k : Nat} {Pf : Fns} {tb : List (Str × List Str)} {gt : List (Str × D)} {N : List Str} {qual : Str} {scope : Scope} {f : Addr} {cd : Value} {A : Around} {outer : List PySem.Env} {s : Shared} {H : Hp} {E : XK}
    (T : Tp Z P w K mg base k Pf tb gt) (hr : Room k (A.deeper (envOfC qual scope s.heap.objs.size f cd))) (nd : N.Nodup) : Gd Z (cxOf (L2.CX P w) P w K mg base N qual scope f cd A outer s H E) :=
  ⟨T.hK, rfl, by have := hr.un; show (A.deeper (envOfC qual scope s.heap.objs.size f cd)).units + 100 < cLine; omega, nd⟩
theorem takes_blk {s : Shared} {scope : Scope} {env : PySem.Env} {fp : List Addr} : Takes (X.blk s H scope env fp) WF := fun u s' ⟨a, B, sI, pins, σ, H, cls, d, e, I, nb, up, sky, na, os, ag, w⟩ => w
theorem call_ {k : Nat} {tb : List (Str × List Str)} {gt : List (Str × D)} {ps : List Str} {es : List Expr} {A : Es} (tk : Takes X W) (T : Tp Z X.prog X.w X.K X.mg X.base k P tb gt) (hr : Room k X.A) (j : Nat) {n : Nat} (ha : RA Z W P X (e :: es) A)
    (hj : tb[j]? = some (x, ps) := by rfl) (hf : A.fix = some n := by rfl) (hn : ps.length = n := by rfl) (hg : Gl X x := by rfl) (hdb : (x == ("__debug__" : Str)) = false := by decide) (hne : x ≠ "" := by decide)
    (he : starEach (e :: es) X.env = (false, eval e X.env) :: starEach es X.env := by rfl) (hpl : (backTo pos (starEach es X.env)).any (·.1) = false := by rfl) :
    RE Z W P X (.Call (.Name x p) (e :: es) [] pos) (.call j (idPm n) A .nil) := by
  obtain ⟨fd, F, hb⟩ := T.fn j x ps hj hne
  subst hn
  exact r_call (m := ps.length) (dd := []) (dvs := []) tk hg ⟨F.ok, hr, F.mg, F.keep⟩ hb .nil (fun _ _ => Iss.nil) (fun ds h => by rw [List.append_nil]; exact pick_id h) (fun ρ M ds M' h => fix_len hf h) rfl ha hdb he hpl
theorem gl_ {k : Nat} {tb : List (Str × List Str)} {gt : List (Str × D)} {d : D} (T : Tp Z X.prog X.w X.K X.mg X.base k P tb gt) (j : Nat) (hj : gt[j]? = some (x, d) := by rfl) (hg : Gl X x := by rfl) (hx : (x == ("__debug__" : Str)) = false := by decide) : RE Z W P X (.Name x pos) (.g j) := by
  obtain ⟨h1, v, u, h2, h3, h4⟩ := T.gs j x d hj
  exact r_g hg h2 h3 h1 h4 hx
end
end DL
end
section
set_option Elab.async false
set_option linter.all false
set_option maxRecDepth 100000
set_option autoImplicit false
set_option maxHeartbeats 4000000
/-! DL26: dicts of the module that stay; calls with keywords. -/
namespace DL
open PySem PySem.Spec PyProof.Rows L2 LamX

/-- at a: a written dict, its entries wl -/
structure WdOk (Z : Fix) (K : PySem.W.Frag) (w : World) (a : Addr) (wl : List (List Nat × D)) : Prop where
  kd : ∃ es n, KDict K w a es n
  get : ∀ (s : List Nat) (d : D), wl.lookup s = some d → ∃ u v, PySem.W.nsIn K a (cs s) = some (some u) ∧ RelV v u ∧ ∀ φ G, Is Z φ G d v
  no : ∀ s : List Nat, wl.lookup s = none → PySem.W.nsIn K a (cs s) = some none
section
variable {Z : Fix} {W : WX} {P : Fns} {u : Under} {X : Cx} {φ : Ph} {H : Hp} {M : Store} {σ : L2.St} {e a b c o i tg iter elt : Expr} {A B C : E} {pos p p2 p3 tpos spos apos cpos kpos : Pos} {x : Str}
theorem r_wget {n : Nat} {ad : Addr} (hg : Gl X x) (hm : X.mg x = some (.ref ad)) (hw : WdOk Z X.K X.w ad (P.Wd n)) (ha : RE Z W P X a A) (hs : PlainIx a) (hx : (x == ("__debug__" : Str)) = false) : RE Z W P X (.Subscript (.Name x p) a pos) (.wget n A) :=
  PE.imp (pe_ix ix_kdict (pe_glob (v := .ref ad) hg hm rfl hx) ha hs) fun σ H Q ⟨φ, ρ, M, a, q⟩ => by
    rw [ev] at q
    refine (tE.bind a q).mono fun y H1 ⟨φ1, M1, d, a1, s1, i, q1⟩ => ?_
    cases d with
    | str s =>
      unfold wgetD at q1
      simp only at q1
      cases h : (P.Wd n).lookup s with
      | none => rw [h] at q1; exact q1.elim
      | some z =>
        rw [h] at q1
        obtain ⟨u0, v0, k1, k2, k3⟩ := hw.get s z h
        obtain ⟨es, n', kd⟩ := hw.kd
        exact ⟨ad, cs s, v0, rfl, (is_str i).1, ⟨es, n', u0, kd.at_, kd.lit, k1, k2⟩, q1.fin a1.m (k3 _ _)⟩
    | _ => exact q1.elim
theorem win_is {n : Nat} {ad : Addr} {neg : Bool} {s : List Nat} (hw : WdOk Z X.K X.w ad (P.Wd n)) : ∃ r, PySem.W.nsIn X.K ad (cs s) = some r ∧ r.isSome = ((P.Wd n).lookup s).isSome := by
  cases h : (P.Wd n).lookup s with
  | none => exact ⟨none, hw.no s h, rfl⟩
  | some d =>
    obtain ⟨u, v, h1, _⟩ := hw.get s d h
    exact ⟨some u, h1, rfl⟩
theorem win_R {n : Nat} {ad : Addr} (hw : WdOk Z X.K X.w ad (P.Wd n)) : OpR X (compareOp .In) (fun x y H Q => ∃ s : List Nat, x = .str (cs s) ∧ y = .ref ad ∧ Q (.bl ((P.Wd n).lookup s).isSome) H) := by
  obtain ⟨es, m, kd⟩ := hw.kd
  refine OpR.imp (op_in_kd kd) fun x y H Q ⟨s, e1, e2, q⟩ => ?_
  obtain ⟨r, h1, h2⟩ := win_is (neg := false) (s := s) hw
  exact ⟨cs s, r, e1, e2, h1, by rw [h2]; exact q⟩
theorem wnin_R {n : Nat} {ad : Addr} (hw : WdOk Z X.K X.w ad (P.Wd n)) : OpR X (compareOp .NotIn) (fun x y H Q => ∃ s : List Nat, x = .str (cs s) ∧ y = .ref ad ∧ Q (.bl (!((P.Wd n).lookup s).isSome)) H) := by
  obtain ⟨es, m, kd⟩ := hw.kd
  refine OpR.imp (op_notIn_kd kd) fun x y H Q ⟨s, e1, e2, q⟩ => ?_
  obtain ⟨r, h1, h2⟩ := win_is (neg := false) (s := s) hw
  exact ⟨cs s, r, e1, e2, h1, by rw [h2]; exact q⟩
theorem r_win {n : Nat} {ad : Addr} (hg : Gl X x) (hm : X.mg x = some (.ref ad)) (hw : WdOk Z X.K X.w ad (P.Wd n)) (ha : RE Z W P X a A) (hx : (x == ("__debug__" : Str)) = false) : RE Z W P X (.Compare a [.In] [.Name x p] pos) (.win false n A) :=
  PE.imp (pe_cmpR (win_R hw) ha (pe_glob (v := .ref ad) hg hm rfl hx) rfl) fun σ H Q ⟨φ, ρ, M, a, q⟩ => by
    rw [ev] at q
    refine (tE.bind a q).mono fun y H1 ⟨φ1, M1, d, a1, s1, i, q1⟩ => ?_
    cases d with
    | str s => exact ⟨s, (is_str i).1, rfl, q1.bl a1.m⟩
    | _ => exact q1.elim
theorem r_wnin {n : Nat} {ad : Addr} (hg : Gl X x) (hm : X.mg x = some (.ref ad)) (hw : WdOk Z X.K X.w ad (P.Wd n)) (ha : RE Z W P X a A) (hx : (x == ("__debug__" : Str)) = false) : RE Z W P X (.Compare a [.NotIn] [.Name x p] pos) (.win true n A) :=
  PE.imp (pe_cmpR (wnin_R hw) ha (pe_glob (v := .ref ad) hg hm rfl hx) rfl) fun σ H Q ⟨φ, ρ, M, a, q⟩ => by
    rw [ev] at q
    refine (tE.bind a q).mono fun y H1 ⟨φ1, M1, d, a1, s1, i, q1⟩ => ?_
    cases d with
    | str s => exact ⟨s, (is_str i).1, rfl, q1.bl a1.m⟩
    | _ => exact q1.elim
end
end DL
end
section
set_option Elab.async false
set_option linter.all false
set_option maxRecDepth 100000
set_option autoImplicit false
set_option maxHeartbeats 4000000
/-! DL27: what a def leaves behind is settled: what it made and dropped is forgotten. -/
namespace DL
open PySem PySem.Spec PyProof.Rows L2 LamX

/-- the result, without the store's objects from n on: a list that was made stays as a value -/
def freeze (n : Nat) (M : Store) (d : D) : Option D := if d.bnd n = true then some d else match d with
  | .ref k => match M[k]? with
    | some (.lst ds) => if D.bnds n ds = true then some (.lst ds) else none
    | _ => none
  | _ => none
open Classical in
/-- the store that stays: mode 1: as it was; mode 2: changed, but nothing new is held -/
noncomputable def stays (m : Nat) (M M' : Store) : Option Store :=
  if m = 1 then (if M'.take M.length = M then some M else none)
  else if M.length ≤ M'.length ∧ storeBnd M.length (M'.take M.length) = true then some (M'.take M.length) else none
noncomputable def settle (m : Nat) (M : Store) (r : R D) : R D := if m = 0 then r else match r with
  | .ok d M' => match stays m M M', freeze M.length M' d with
    | some M1, some d1 => .ok d1 M1
    | _, _ => .no
  | .ex c ds M' => match stays m M M' with
    | some M1 => if D.bnds M.length ds = true then .ex c ds M1 else .no
    | none => .no
  | .no => .no
section
variable {Z : Fix} {φ φ' : Ph} {G G' H H' : Hp} {M M' M1 : Store} {ν : List Addr}
mutual
theorem Is.bnd : ∀ (d : D) (v : V), Is Z φ G d v → d.bnd φ.s.length = true
  | .non, _, _ => rfl
  | .bl _, _, _ => rfl
  | .int _, _, _ => rfl
  | .str _, _, _ => rfl
  | .fn _, _, _ => rfl
  | .ty _, _, _ => rfl
  | .scr _, _, _ => rfl
  | .ref n, v, h => by
    rw [Is] at h
    obtain ⟨a, _, h2⟩ := h
    simp only [D.bnd, decide_eq_true_eq]
    exact (List.getElem?_eq_some_iff.mp h2).1
  | .tup ds, v, h => by
    rw [Is] at h
    obtain ⟨a, vs, _, _, h3⟩ := h
    simp only [D.bnd]
    exact Iss.bnd ds vs h3
  | .lst ds, v, h => by
    rw [Is] at h
    obtain ⟨a, vs, _, _, h3⟩ := h
    simp only [D.bnd]
    exact Iss.bnd ds vs h3
  | .key ds, v, h => by
    rw [Is] at h
    obtain ⟨a, vs, _, _, h3⟩ := h
    simp only [D.bnd]
    exact Iss.bnd ds vs h3
  | .exc c ds, v, h => by
    rw [Is] at h
    obtain ⟨a, d, vs, _, _, _, _, h3⟩ := h
    simp only [D.bnd]
    exact Iss.bnd ds vs h3
theorem Iss.bnd : ∀ (ds : List D) (vs : List V), Iss Z φ G ds vs → D.bnds φ.s.length ds = true
  | [], _, _ => rfl
  | d :: ds, vs, h => by
    obtain ⟨v, r, _, h2, h3⟩ := h.inv
    simp only [D.bnds, Bool.and_eq_true]
    exact ⟨Is.bnd d v h2, Iss.bnd ds r h3⟩
end
mutual
/-- fewer objects of the store: what lies below stays -/
theorem Is.less (e : ExtN G G') : ∀ (d : D) (v : V), d.bnd φ.s.length = true → Is Z (φ.add ν) G d v → Is Z φ G' d v
  | .non, v, _, h => by simpa only [Is] using h
  | .bl b, v, _, h => by simpa only [Is] using h
  | .int i, v, _, h => by simpa only [Is] using h
  | .str x, v, _, h => by simpa only [Is] using h
  | .fn i, v, _, h => by simpa only [Is] using h
  | .ty n, v, _, h => by simpa only [Is] using h
  | .ref n, v, b, h => by
    simp only [Is] at h ⊢
    obtain ⟨a, h1, h2⟩ := h
    simp only [D.bnd, decide_eq_true_eq] at b
    have h2 : (φ.s ++ ν)[n]? = some a := h2
    rw [List.getElem?_append_left b] at h2
    exact ⟨a, h1, h2⟩
  | .tup ds, v, b, h => by
    simp only [Is] at h ⊢
    obtain ⟨a, vs, h1, h2, h3⟩ := h
    exact ⟨a, vs, h1, ExtN.tupN e h2, Iss.less e ds vs (by simpa only [D.bnd] using b) h3⟩
  | .lst ds, v, b, h => by
    simp only [Is] at h ⊢
    obtain ⟨a, vs, h1, h2, h3⟩ := h
    exact ⟨a, vs, h1, e _ _ h2 (fun ps z => by cases z), Iss.less e ds vs (by simpa only [D.bnd] using b) h3⟩
  | .scr ns, v, _, h => by
    simp only [Is] at h ⊢
    obtain ⟨a, h1, h2⟩ := h
    exact ⟨a, h1, ExtN.sqL e h2⟩
  | .key ds, v, b, h => by
    simp only [Is] at h ⊢
    obtain ⟨a, vs, h1, h2, h3⟩ := h
    exact ⟨a, vs, h1, e _ _ h2 (fun ps z => by cases z), Iss.less e ds vs (by simpa only [D.bnd] using b) h3⟩
  | .exc c ds, v, b, h => by
    simp only [Is] at h ⊢
    obtain ⟨a, d, vs, h1, h2, h3, h4, h5⟩ := h
    exact ⟨a, d, vs, h1, e _ _ h2 (fun ps z => by unfold excH at z; cases z), e _ _ h3 (fun ps z => by cases z), h4, Iss.less e ds vs (by simpa only [D.bnd] using b) h5⟩
theorem Iss.less (e : ExtN G G') : ∀ (ds : List D) (vs : List V), D.bnds φ.s.length ds = true → Iss Z (φ.add ν) G ds vs → Iss Z φ G' ds vs
  | [], vs, _, h => by simpa only [Iss] using h
  | d :: ds, vs, b, h => by
    simp only [Iss] at h ⊢
    obtain ⟨v, r, h1, h2, h3⟩ := h
    simp only [D.bnds, Bool.and_eq_true] at b
    exact ⟨v, r, h1, Is.less e d v b.1 h2, Iss.less e ds r b.2 h3⟩
end
theorem kis_bnd : ∀ {kvs : List (D × D)} {ws : List (Key × V)}, KIs Z φ G kvs ws → kvsBnd φ.s.length kvs = true
  | [], _, _ => rfl
  | (k, d) :: r, _, h => by
    obtain ⟨kk, v, ws', h1, h2, h3, h4, h5⟩ := h
    simp only [kvsBnd, Bool.and_eq_true]
    exact ⟨Is.bnd d v h4, kis_bnd h5⟩
theorem tis_bnd : ∀ {kvs : List (D × D)} {ws : List (List Key × V)}, TIs Z φ G kvs ws → kvsBnd φ.s.length kvs = true
  | [], _, _ => rfl
  | (k, d) :: r, _, h => by
    obtain ⟨ks, kk, v, ws', h1, h2, h3, h4, h5, h6⟩ := h
    simp only [kvsBnd, Bool.and_eq_true]
    exact ⟨Is.bnd d v h5, tis_bnd h6⟩
theorem fis_bnd : ∀ {kvs : List (Nat × D)} {ws : List (Str × V)}, FIs Z φ G kvs ws → fsBnd φ.s.length kvs = true
  | [], _, _ => rfl
  | (k, d) :: r, _, h => by
    obtain ⟨v, ws', h1, h2, h3⟩ := h
    simp only [fsBnd, Bool.and_eq_true]
    exact ⟨Is.bnd d v h2, fis_bnd h3⟩
theorem IsO.bnd {o : MO} {ho : HO} (h : IsO Z φ G o ho) : o.bnd φ.s.length = true := by
  cases o with
  | lst ds =>
    obtain ⟨vs, e1, e2⟩ := h
    exact Iss.bnd _ _ e2
  | dict tk kvs =>
    cases tk with
    | false =>
      obtain ⟨ws, e1, e2⟩ := h
      exact kis_bnd e2
    | true =>
      obtain ⟨ws, e1, e2⟩ := h
      exact tis_bnd e2
  | ins c fs =>
    obtain ⟨dx, ws, e1, e2⟩ := h
    exact fis_bnd e2
theorem kis_drop (e : ExtN G G') : ∀ {kvs : List (D × D)} {ws : List (Key × V)}, kvsBnd φ.s.length kvs = true → KIs Z (φ.add ν) G kvs ws → KIs Z φ G' kvs ws
  | [], _, _, h => h
  | (k, d) :: r, _, b, h => by
    obtain ⟨kk, v, ws', h1, h2, h3, h4, h5⟩ := h
    simp only [kvsBnd, Bool.and_eq_true] at b
    exact ⟨kk, v, ws', h1, h2, h3, Is.less e d v b.1 h4, kis_drop e b.2 h5⟩
theorem tis_drop (e : ExtN G G') : ∀ {kvs : List (D × D)} {ws : List (List Key × V)}, kvsBnd φ.s.length kvs = true → TIs Z (φ.add ν) G kvs ws → TIs Z φ G' kvs ws
  | [], _, _, h => h
  | (k, d) :: r, _, b, h => by
    obtain ⟨ks, kk, v, ws', h1, h2, h3, h4, h5, h6⟩ := h
    simp only [kvsBnd, Bool.and_eq_true] at b
    exact ⟨ks, kk, v, ws', h1, h2, h3, h4, Is.less e d v b.1 h5, tis_drop e b.2 h6⟩
theorem fis_drop (e : ExtN G G') : ∀ {kvs : List (Nat × D)} {ws : List (Str × V)}, fsBnd φ.s.length kvs = true → FIs Z (φ.add ν) G kvs ws → FIs Z φ G' kvs ws
  | [], _, _, h => h
  | (k, d) :: r, _, b, h => by
    obtain ⟨v, ws', h1, h2, h3⟩ := h
    simp only [fsBnd, Bool.and_eq_true] at b
    exact ⟨v, ws', h1, Is.less e d v b.1 h2, fis_drop e b.2 h3⟩
theorem IsO.less (e : ExtN G G') {o : MO} {ho : HO} (b : o.bnd φ.s.length = true) (h : IsO Z (φ.add ν) G o ho) : IsO Z φ G' o ho := by
  cases o with
  | lst ds =>
    obtain ⟨vs, e1, e2⟩ := h
    exact ⟨vs, e1, Iss.less e _ _ b e2⟩
  | dict tk kvs =>
    cases tk with
    | false =>
      obtain ⟨ws, e1, e2⟩ := h
      exact ⟨ws, e1, kis_drop e b e2⟩
    | true =>
      obtain ⟨ws, e1, e2⟩ := h
      exact ⟨ws, e1, tis_drop e b e2⟩
  | ins c fs =>
    obtain ⟨dx, ws, e1, e2⟩ := h
    exact ⟨dx, ws, e1, fis_drop e b e2⟩
theorem out_less : ∀ b u, out (φ.add ν) H b = some u → out φ H b = some u := fun b u e => by
  obtain ⟨h1, h2⟩ := out_some e
  refine out_of (fun z => h1 ?_) h2
  rcases List.mem_append.mp z with z | z
  · exact List.mem_append_left _ z
  · exact List.mem_append_right _ (List.mem_append_left _ z)
theorem store_at : ∀ {n k : Nat} {M : Store} {o : MO}, storeBnd n M = true → M[k]? = some o → o.bnd n = true
  | n, 0, o :: M, o', h, e => by
    simp only [storeBnd, Bool.and_eq_true] at h
    cases e
    exact h.1
  | n, k + 1, o :: M, o', h, e => by
    simp only [storeBnd, Bool.and_eq_true] at h
    exact store_at h.2 (by simpa using e)
  | n, k, [], o', h, e => by simp at e
/-- the objects from M.length on forgotten -/
theorem step_less (m : RepM Z φ M H) (s : Step Z φ H φ' H' M') (h1 : M1.length = M.length) (h2 : ∀ (n : Nat) (o : MO), M1[n]? = some o → M'[n]? = some o ∧ o.bnd M.length = true) : Step Z φ H φ H' M1 := by
  obtain ⟨ν, rfl⟩ := s.pre
  have ext : ExtN (out (φ.add ν) H') (out φ H') := fun b u e _ => out_less b u e
  refine ⟨⟨[], by simp [Ph.add]⟩, s.ext.trans ext, s.hid, by rw [h1]; exact m.len, m.nd, s.m.hid, fun n o e => ?_, s.m.tab.ext out_less⟩
  obtain ⟨e1, e2⟩ := h2 n o e
  obtain ⟨a, ho, k1, k2, k3⟩ := s.m.at_ n o e1
  have hn : n < φ.s.length := by rw [m.len, ← h1]; exact (List.getElem?_eq_some_iff.mp e).1
  have k1 : (φ.s ++ ν)[n]? = some a := k1
  rw [List.getElem?_append_left hn] at k1
  exact ⟨a, ho, k1, k2, IsO.less ext (by rw [m.len]; exact e2) k3⟩
theorem stays_ok {md : Nat} (m : RepM Z φ M H) (s : Step Z φ H φ' H' M') (h : stays md M M' = some M1) : Step Z φ H φ H' M1 := by
  unfold stays at h
  split at h
  · split at h
    · rename_i ht
      cases h
      refine step_less m s rfl fun n o e => ⟨?_, ?_⟩
      · rw [← ht] at e
        rw [List.getElem?_take] at e
        split at e
        · exact e
        · cases e
      · obtain ⟨a, ho, _, _, k3⟩ := m.at_ n o e
        rw [← m.len]
        exact IsO.bnd k3
    · cases h
  · split at h
    · rename_i ht
      cases h
      refine step_less m s (by rw [List.length_take]; omega) fun n o e => ⟨?_, store_at ht.2 e⟩
      rw [List.getElem?_take] at e
      split at e
      · exact e
      · cases e
    · cases h
theorem freeze_ok {d d1 : D} {v : V} (m : RepM Z φ M H) (s : Step Z φ H φ' H' M') (h : freeze M.length M' d = some d1) (i : Is Z φ' (out φ' H') d v) : Is Z φ (out φ H') d1 v := by
  obtain ⟨ν, rfl⟩ := s.pre
  have ext : ExtN (out (φ.add ν) H') (out φ H') := fun b u e _ => out_less b u e
  unfold freeze at h
  split at h
  · rename_i hb
    cases h
    exact Is.less ext d v (by rw [m.len]; exact hb) i
  · rename_i hb
    split at h
    · rename_i k
      split at h
      · rename_i ds e
        split at h
        · rename_i hds
          cases h
          rw [Is] at i
          obtain ⟨a, rfl, ha⟩ := i
          obtain ⟨vs, e1, e2⟩ := s.m.lst e ha
          have hk : M.length ≤ k := by simpa [D.bnd] using hb
          have hν : a ∈ ν := by
            have ha : (φ.s ++ ν)[k]? = some a := ha
            rw [List.getElem?_append_right (by rw [m.len]; exact hk)] at ha
            exact List.mem_of_getElem? ha
          have np : a ∉ φ.all := fun z => by
            have nd := s.m.nd
            have e3 : (φ.add ν).all = φ.all ++ ν := by show φ.h ++ (φ.s ++ ν) = (φ.h ++ φ.s) ++ ν; rw [List.append_assoc]
            rw [e3] at nd
            exact (List.nodup_append.mp nd).2.2 a z a hν rfl
          rw [Is]
          exact ⟨a, vs, rfl, out_of np e1, Iss.less ext _ _ (by rw [m.len]; exact hds) e2⟩
        · cases h
      · cases h
    · cases h
theorem settle_ok {W : WX} {σ : L2.St} {md : Nat} {r : R D} {Q : VK} (m : RepM Z φ M H) (q : post Z (Is Z) W σ φ H (settle md M r) Q) : post Z (Is Z) W σ φ H r Q := by
  unfold settle at q
  split at q
  · exact q
  · cases r with
    | ok d M' =>
      simp only at q
      split at q
      · rename_i M1 d1 h1 h2
        exact fun φ' v H' s i => q φ v H' (stays_ok m s h1) (freeze_ok m s h2 i)
      · exact q.elim
    | ex c ds M' =>
      simp only at q
      split at q
      · rename_i M1 h1
        split at q
        · rename_i hb
          refine fun φ' cls dx H' s i => q φ cls dx H' (stays_ok m s h1) ?_
          obtain ⟨e1, d, vs, e2, e3, e4, e5⟩ := i
          obtain ⟨ν, rfl⟩ := s.pre
          have ext : ExtN (out (φ.add ν) H') (out φ H') := fun b u e _ => out_less b u e
          exact ⟨e1, d, vs, e2, out_less _ _ e3, e4, Iss.less ext _ _ (by rw [m.len]; exact hb) e5⟩
        · exact q.elim
      · exact q.elim
    | no => exact q
end
end DL
end
section
set_option Elab.async false
set_option linter.all false
set_option maxRecDepth 100000
set_option autoImplicit false
set_option maxHeartbeats 4000000
/-! DL28: a def computes what its body's evaluation gives. -/
namespace DL
open PySem PySem.Spec PyProof.Rows L2 LamX

/-- what the def with this body computes; N: how many slots; md: how it is settled -/
noncomputable def runF (Pf : Fns) (u : Under) (md N : Nat) (b : Ss) (ds : List D) (M : Store) : R D := settle md M (execs Pf u b (startE N ds) M).toR
section
variable {Z : Fix} {P : Program} {w : World} {K : PySem.W.Frag} {mg : Str → Option Value} {base : Heap} {Pf : Fns} {u : Under} {k md : Nat} {x qual : Str} {params : Arguments} {body : List Stmt} {scope : Scope} {dvs : List V} {kws : List (Str × V)} {f : Addr} {fd : FuncData} {N ps : List Str} {b : Ss}
theorem fn_lvl (F : FunD K x qual params body scope dvs kws f fd) (S : FnScope N ps scope)
    (hb : ∀ (cdv : Value) (A : Around) (outer : List PySem.Env) (s : Shared) (H : Hp) (E : XK), Room k (A.deeper (envOfC qual scope s.heap.objs.size f cdv)) →
      RSs Z (fun cls d _ H => E cls d H) Pf u (cxOf (L2.CX P w) P w K mg base N qual scope f cdv A outer s H E) body b) :
    FnOk P w K mg base (L2.CX P w) (k + 1) f fd ps (spD Z ps.length (runF Pf u md N.length b)) := by
  refine F.ok S (fun vs H Q E h => h.1) fun cdv A outer s H vs Q E hr h => ?_
  obtain ⟨hl, φ, M, ds, m, i, q⟩ := h
  exact ⟨_, hb cdv A outer s H E hr, φ, startE N.length ds, M, ⟨m, repE_start i⟩, body_post (settle_ok (σ := []) m q)⟩
end
end DL
end
section
set_option Elab.async false
set_option linter.all false
set_option maxRecDepth 100000
set_option autoImplicit false
set_option maxHeartbeats 4000000
/-! DL29: dict comprehensions. -/
namespace DL
open PySem PySem.Spec PyProof.Rows L2 LamX

section
variable {Z : Fix} {W : WX} {P : Fns} {u : Under} {X : Cx} {φ ψ φ' φ0 φ1 : Ph} {G H H' H0 H1 : Hp} {M M' : Store} {σ : L2.St} {ρ : Env} {e a b kx vx tg iter : Expr} {A B : E} {pos p tpos : Pos} {x : Str}
theorem dcomp_cons {tk : Bool} {g : Option Nat} {all : List D} {f : D → Store → R (D × D)} {x : D} {xs : List D} {acc : List (D × D)} (h : guard g all M) (hl : acc.length < line) :
    dcomp tk g all f (x :: xs) acc M = (noEx (f x M)).bind fun p M' => (if putOk tk p.1 = true then dcomp tk g all f xs (putKv acc p.1 p.2) M' else .no) := by
  rw [dcomp, if_pos ⟨h, hl⟩]
theorem dcomp_nil {tk : Bool} {g : Option Nat} {all : List D} {f : D → Store → R (D × D)} {acc : List (D × D)} (h : guard g all M) : dcomp tk g all f [] acc M = .ok acc M := by
  rw [dcomp, if_pos h]
theorem dcomp_ok {tk : Bool} {g : Option Nat} {all : List D} {f : D → Store → R (D × D)} {xs : List D} {acc : List (D × D)} (h : dcomp tk g all f xs acc M ≠ .no) : guard g all M ∧ (xs ≠ [] → acc.length < line) := by
  cases xs with
  | nil =>
    refine ⟨?_, fun z => absurd rfl z⟩
    by_cases hg : guard g all M
    · exact hg
    · rw [dcomp, if_neg hg] at h
      exact absurd rfl h
  | cons x xs =>
    by_cases hg : guard g all M ∧ acc.length < line
    · exact ⟨hg.1, fun _ => hg.2⟩
    · rw [dcomp, if_neg hg] at h
      exact absurd rfl h
theorem dc_it {J : It} {n : Nat} {Gg : Hp → Prop} {Y : Nat → Hp → V → Hp → Prop} (w : Walk J n Gg Y) {g : TG} {tt : TT} {tk tv : TE} {vs : List Nat} {σ : L2.St} {H1 : Hp} {Da : Addr} {Qd : Hp → Prop} (Pv : Nat → Hp → Prop) (h0 : Pv 0 (upd H1 Da (.dK []))) (hG : ∀ i H, i ≤ n → Pv i H → Gg H)
    (hs : ∀ i x H H', i < n → Pv i H → Y i H x H' → g x (wipe σ vs) H' fun σ2 H2 => wipe σ2 vs = wipe σ vs ∧ tt σ2 H2 fun b H3 =>
      if b = true then tk σ2 H3 fun y H4 => tv σ2 H4 fun z H5 => ∃ kvs k, y = kV k ∧ H5 Da = some (.dK kvs) ∧ kvs.length < sizeLine ∧ Pv (i + 1) (upd H5 Da (.dK (putK kvs k z))) else Pv (i + 1) H3) (hd : ∀ H, Pv n H → Qd H) :
    ∃ Wt : Nat → Nat → Hp → Prop, (∃ m, Wt 0 m (upd H1 Da (.dK []))) ∧ ∀ i m H, Wt i m H →
      (J.stop i H ∧ Qd H) ∨ (J.go i H ∧ ∃ Nx : Hp → Prop, (∀ H', Nx H' → ∃ m', m' < m ∧ Wt (i + 1) m' H') ∧ ∀ x H', J.yld i H x H' → g x (wipe σ vs) H' fun σ2 H2 => wipe σ2 vs = wipe σ vs ∧ tt σ2 H2 fun b H3 =>
        if b = true then tk σ2 H3 fun y H4 => tv σ2 H4 fun z H5 => ∃ kvs k, y = kV k ∧ H5 Da = some (.dK kvs) ∧ kvs.length < sizeLine ∧ Nx (upd H5 Da (.dK (putK kvs k z))) else Nx H3) := by
  refine ⟨fun i m H => m = n - i ∧ i ≤ n ∧ Pv i H, ⟨n, by simp, Nat.zero_le _, h0⟩, ?_⟩
  rintro i m H ⟨rfl, hi, p⟩
  have q := hG i H hi p
  by_cases hlt : i < n
  · refine .inr ⟨w.goes i H hlt q, Pv (i + 1), fun H' p' => ⟨n - (i + 1), by omega, rfl, hlt, p'⟩, fun x H' y => hs i x H H' hlt p (w.yields i H x H' hlt q y)⟩
  · have e : i = n := by omega
    subst e
    exact .inl ⟨w.stops H q, hd H p⟩
theorem dc_read {own : List Nat} {t : T} {it : I} {Ek Ev : DL.E} {Q : VK} (hsl : ∀ i ∈ t.slots, i ∈ own) (a : At Z φ ρ M σ H) (q : post Z (Is Z) W σ φ H (ev P (.dc false own t it Ek Ev) ρ M) Q) :
    tDc (tI Z W (evI P it)) (tG Z t) tYes (tE Z WF (ev P Ek)) (tE Z WF (ev P Ev)) own σ H Q := by
  rw [ev] at q
  refine ⟨φ, ρ, M, a, ?_, fun w M1 ew φ1 H1 s1 J wk Da hD => ?_⟩
  · cases e : evI P it ρ M with
    | ok w M1 => exact fun _ _ _ _ _ => True.intro
    | ex c ds M1 =>
      rw [e] at q
      exact q
    | no =>
      rw [e] at q
      exact q.elim
  · rw [ew] at q
    obtain ⟨ds, gd⟩ := w
    have q := post.rebase s1 q
    simp only [R.bind_ok] at q wk
    let f : D → Store → R (D × D) := fun x M => match T.put t x (wipeE ρ own) with
      | some ρ' => (ev P Ek ρ' M).bind fun a M => (ev P Ev ρ' M).bind fun b M => .ok (a, b) M
      | none => .no
    let fin : List (D × D) → Store → R D := fun kvs M => .ok (.ref M.length) (M ++ [.dict false kvs])
    have q : post Z (Is Z) W σ φ1 H1 ((dcomp false gd ds f ds [] M1).bind fin) Q := q
    let Pv : Nat → Hp → Prop := fun i H => ∃ ψ M acc ws, ψ.h = φ1.h ∧ (∀ ho, Step Z φ1 H1 ψ (upd H Da ho) M) ∧ RepM Z (ψ.hide Da) M H ∧ H Da = some (.dK ws) ∧ KIs Z ψ (out (ψ.hide Da) H) acc ws ∧
      post Z (Is Z) W σ φ1 H1 ((dcomp false gd ds f (ds.drop i) acc M).bind fin) Q
    let Gg : Hp → Prop := fun H => ∃ φ M, Lat Z φ1 H1 φ M H ∧ guard gd ds M
    let Y : Nat → Hp → V → Hp → Prop := fun i H x H' => ∀ φ M, Lat Z φ1 H1 φ M H → guard gd ds M → Step Z φ H φ H' M ∧ ∀ d, ds[i]? = some d → Is Z φ (out φ H') d x
    have wlk : Walk J ds.length Gg Y := ⟨fun i H hi ⟨φ, M, l, g⟩ => wk.goes i φ M H l g hi, fun H ⟨φ, M, l, g⟩ => wk.stops φ M H l g, fun i H x H' hi _ y φ M l g => wk.yields i φ M H x H' l g hi y⟩
    refine dc_it wlk (Qd := fun H => Q (.ref Da) H) Pv ?_ ?_ ?_ ?_
    · refine ⟨φ1, M1, [], [], rfl, fun ho => ?_, s1.m.hide hD, upd_same, rfl, by simpa using q⟩
      rw [upd_upd]
      exact step_new s1.m hD
    · rintro i H _ ⟨ψ, M, acc, ws, _, st, m, _, _, q⟩
      exact ⟨ψ.hide Da, M, lat_hide (ho := .lst []) hD (st _) m, (dcomp_ok (bind_no (post_no q))).1⟩
    · rintro i x H H' hi ⟨ψ, M, acc, ws, hh, st, m, hacc, ia, q⟩ y
      have hd : ds.drop i = ds[i] :: ds.drop (i + 1) := by rw [List.drop_eq_getElem_cons hi]
      rw [hd] at q
      obtain ⟨gg, hl⟩ := dcomp_ok (bind_no (post_no q))
      have hl := hl (List.cons_ne_nil _ _)
      have l := lat_hide (ho := .lst []) hD (st _) m
      obtain ⟨s2, yi⟩ := y _ _ l gg
      have hx := yi ds[i] (List.getElem?_eq_getElem hi)
      rw [dcomp_cons gg hl] at q
      obtain ⟨⟨dk, dv⟩, M4, ef⟩ := noEx_ok (bind_no (bind_no (post_no q)))
      rw [ef] at q
      have q : post Z (Is Z) W σ φ1 H1 ((if putOk false dk = true then dcomp false gd ds f (ds.drop (i + 1)) (putKv acc dk dv) M4 else .no).bind fin) Q := q
      have hput : putOk false dk = true := by
        by_cases c : putOk false dk = true
        · exact c
        · rw [if_neg c] at q
          exact q.elim
      rw [if_pos hput] at q
      have ef : (match T.put t ds[i] (wipeE ρ own) with
        | some ρ' => (ev P Ek ρ' M).bind fun a M => (ev P Ev ρ' M).bind fun b M => .ok (a, b) M
        | none => .no) = R.ok (dk, dv) M4 := ef
      cases ep : T.put t ds[i] (wipeE ρ own) with
      | none => rw [ep] at ef; cases ef
      | some ρ' =>
        rw [ep] at ef
        simp only at ef
        have re : RepE Z (ψ.hide Da) (out (ψ.hide Da) H) (wipeE ρ own) (wipe σ own) := repE_wipe (l.repE (s1.repE a.e)) own
        have a2 : At Z (ψ.hide Da) (wipeE ρ own) M (wipe σ own) H' := s2.at_ ⟨m, re⟩
        refine ⟨_, _, _, _, _, a2, hx, ep, fun σ2 a3 hw => ⟨(hw own hsl).trans (wipe_wipe own), ?_⟩⟩
        unfold tYes
        dsimp only
        rw [if_pos rfl]
        cases e5 : ev P Ek ρ' M with
        | ex c es M5 => rw [e5] at ef; cases ef
        | no => rw [e5] at ef; cases ef
        | ok d5 M5 =>
          rw [e5] at ef
          simp only [R.bind_ok] at ef
          refine ⟨_, ρ', M, a3, ?_⟩
          rw [e5]
          intro φ5 v5 H5 s5 i5
          have s25 := s2.trans s5
          cases e6 : ev P Ev ρ' M5 with
          | ex c es M6 => rw [e6] at ef; cases ef
          | no => rw [e6] at ef; cases ef
          | ok d6 M6 =>
            rw [e6] at ef
            simp only [R.bind_ok] at ef
            cases ef
            refine ⟨_, ρ', M5, s5.at_ a3, ?_⟩
            rw [e6]
            intro φ6 v6 H6 s6 i6
            have s26 := s25.trans s6
            have i5' := s6.is i5
            obtain ⟨_, hφ6⟩ := Step.over (ho2 := .lst []) hD (st (.lst [])) hh s26
            have st6 := fun ho => (Step.over (ho2 := ho) hD (st (.lst [])) hh s26).1
            generalize hψ6 : Ph.mk φ6.s φ1.h = ψ6 at hφ6 st6
            subst hφ6
            have ex26 : ExtN (out (ψ.hide Da) H) (out (ψ6.hide Da) H6) := s26.ext
            obtain ⟨ν, eν⟩ := s26.pre
            have ia6 : KIs Z ψ6 (out (ψ6.hide Da) H6) acc ws := by
              have k1 := kis_mono (ν := ν) ex26 ia
              refine kis_hs (φ := ψ.add ν) (ψ := ψ6) ?_ k1
              have := congrArg Ph.s eν
              exact this
            obtain ⟨kk, hk⟩ := keyOk_one (d := dk) hput
            obtain ⟨ek, sk⟩ := is_key i5' hk
            refine ⟨ws, kk, ek, by rw [s26.hid Da List.mem_cons_self]; exact hacc, by rw [← kis_len ia, ← line_eq]; exact hl, ψ6, M4, putKv acc dk dv, putK ws kk v6, by rw [← hψ6], fun ho => by rw [upd_upd]; exact st6 ho, s26.m.rehide, upd_same, ?_, q⟩
            rw [out_set (mem_hide.mpr (.inl rfl))]
            exact kis_put ia6 hk sk (Is.hs (φ := ψ6.hide Da) (ψ := ψ6) rfl _ _ i6)
    · rintro H ⟨ψ, M, acc, ws, hh, st, m, hacc, ia, q⟩
      rw [List.drop_length] at q
      have gg := (dcomp_ok (bind_no (post_no q))).1
      rw [dcomp_nil gg] at q
      have q : post Z (Is Z) W σ φ1 H1 (.ok (.ref M.length) (M ++ [.dict false acc])) Q := q
      have sd := Step.stored (o := .dict false acc) (ho' := .dK ws) (st (.lst [])) hD m ⟨ws, rfl, ia⟩
      rw [upd_eta hacc] at sd
      refine q _ _ _ sd ?_
      rw [Is]
      refine ⟨Da, rfl, ?_⟩
      show (ψ.s ++ [Da])[M.length]? = _
      rw [← show ψ.s.length = M.length from m.len, List.getElem?_append_right (Nat.le_refl _), Nat.sub_self]
      rfl
theorem dc_ {scope : Scope} (own : List (Str × Nat)) {t : T} {it : I} (g : Gd Z X) (hi : RI Z W P X tg iter it) (hg : ∀ (s : Shared) (H : Hp) (C : Addr) (cl : List (Str × Addr)) (fp : List Addr), RG Z (X.blk s H scope (compEnvC scope cl C X.env) fp) tg t)
    (hk : ∀ (s : Shared) (H : Hp) (C : Addr) (cl : List (Str × Addr)) (fp : List Addr), RE Z WF P (X.blk s H scope (compEnvC scope cl C X.env) fp) kx A)
    (he : ∀ (s : Shared) (H : Hp) (C : Addr) (cl : List (Str × Addr)) (fp : List Addr), RE Z WF P (X.blk s H scope (compEnvC scope cl C X.env) fp) vx B)
    (ok : blkC X.N X.env.scope scope own = true := by rfl) (hsl : (t.slots.all fun i => (own.map (·.2)).contains i) = true := by rfl)
    (hs : ∀ x, foldedSetIterable iter X.env x = pure x := by intro _; rfl) : RE Z W P X (.DictComp kx vx [⟨tg, iter, [], 0⟩] scope pos) (.dc false (own.map (·.2)) t it A B) :=
  PE.imp (pe_dc g.calm g.nd hi (blkOk_by ok) hg (fun _ _ _ _ _ => pts_nil) hk he hs) fun σ H Q ⟨φ, ρ, M, a, q⟩ => dc_read (fun i h => by have := List.all_eq_true.mp hsl i h; simpa using this) a q
end
end DL
end
section
set_option Elab.async false
set_option linter.all false
set_option maxRecDepth 100000
set_option maxHeartbeats 2000000
/-! An own exception of two fields: __init__(self, n1, n2): super().__init__(n1, n2); self.n1 = n1; self.n2 = n2. -/
namespace PySem
namespace WAX
open PySem.W PySem.Calls PyProof.Rows PySem.HandSPX
def iA (n1 n2 : Str) (p0 p1 p2 : Pos) : Arguments := { posonlyargs := [], args := [{ arg := "self", annotation := none, pos := p0 }, { arg := n1, annotation := none, pos := p1 }, { arg := n2, annotation := none, pos := p2 }], vararg := none, kwonlyargs := [], kw_defaults := [], kwarg := none, defaults := [] }
def iB (n1 n2 : Str) (q1 q2 q3 q4 q5 q6 q7 r1 r2 r3 r4 t1 t2 t3 t4 : Pos) : List Stmt :=
  [.Expr (.Call (.Attribute (.Call (.Name "super" q1) [] [] q2) "__init__" q3) [.Name n1 q4, .Name n2 q5] [] q6) q7,
   .Assign [.Attribute (.Name "self" r1) n1 r2] (.Name n1 r3) r4,
   .Assign [.Attribute (.Name "self" t1) n2 t2] (.Name n2 t3) t4]
def iS (n1 n2 : Str) : Scope := { kind := .function, names := [(PySem.Str.ofString "self", .local), (n1, .local), (n2, .local), (PySem.Str.ofString "__class__", .free), (PySem.Str.ofString "super", .globalImplicit)], isGenerator := false, isCoroutine := false, more := [] }
/-- the two names -/
structure Nm (n1 n2 : Str) : Prop where
  bnd : ∀ (s : Shared) (qn : Str) (p0 p1 p2 : Pos) (b : List Stmt) (doc pm : Value) (an : Option Addr) (cdv ct : Value) (cc : Addr) (x v1 v2 : Value),
    BindsTo s (ksFn "__init__" qn (iA n1 n2 p0 p1 p2) b (iS n1 n2) .none .none doc pm an cdv ct cc) ⟨[x, v1, v2], []⟩ [("self", x), (n1, v1), (n2, v2)]
  loc : ∀ v ∈ [(("self" : Str)), n1, n2], (iS n1 n2).names.lookup v = some .local
  sup : (iS n1 n2).names.lookup ("super" : Str) = some .globalImplicit
  cls : (iS n1 n2).names.lookup ("__class__" : Str) = some .free
  lS : ∀ x v1 v2 : Value, ([(("self" : Str), x), (n1, v1), (n2, v2)].reverse).lookup ("self" : Str) = some x
  l1 : ∀ x v1 v2 : Value, ([(("self" : Str), x), (n1, v1), (n2, v2)].reverse).lookup n1 = some v1
  l2 : ∀ x v1 v2 : Value, ([(("self" : Str), x), (n1, v1), (n2, v2)].reverse).lookup n2 = some v2
  d1 : (n1 == ("__debug__" : Str)) = false
  d2 : (n2 == ("__debug__" : Str)) = false
  ne : n2 ≠ n1
theorem nm_word_at : Nm "word" "at" := ⟨fun _ _ _ _ _ _ _ _ _ _ _ _ _ _ _ => BindsTo.of_eq (by first | rfl | with_unfolding_all rfl), by decide, by decide, by decide, fun _ _ _ => rfl, fun _ _ _ => rfl, fun _ _ _ => rfl, by decide, by decide, by decide⟩
theorem nm_piece_at : Nm "piece" "at" := ⟨fun _ _ _ _ _ _ _ _ _ _ _ _ _ _ _ => BindsTo.of_eq (by first | rfl | with_unfolding_all rfl), by decide, by decide, by decide, fun _ _ _ => rfl, fun _ _ _ => rfl, fun _ _ _ => rfl, by decide, by decide, by decide⟩
theorem nm_line_field : Nm "line" "field" := ⟨fun _ _ _ _ _ _ _ _ _ _ _ _ _ _ _ => BindsTo.of_eq (by first | rfl | with_unfolding_all rfl), by decide, by decide, by decide, fun _ _ _ => rfl, fun _ _ _ => rfl, fun _ _ _ => rfl, by decide, by decide, by decide⟩
/-- what the written part says of the class at C and of its __init__ at fI -/
structure Txt (n1 n2 : Str) (prog : Program) (K : Frag) (mg : Str → Option Value) (C fI : Addr) : Prop where
  cls : ∃ nm q N bs bm sn sub ab col dd k0 k1 k2 k3 k5, K.lookup C = some (excClassObj nm q C N bs bm true sn sub ab col dd k0 k1 k2 k3 k5 "ValueError.__new__") ∧ refsVE bm = true
  exI : excInitIn K C [.type "ValueError", .type "Exception", .type "BaseException", .type "object"] "ValueError.__new__" = true
  sa : findIn K (.ref C) "__setattr__" = some (some (.builtin "object.__setattr__"))
  ga : findIn K (.ref C) "__getattribute__" = some (some (.builtin "BaseException.__getattribute__"))
  gg : findIn K (.ref C) "__getattr__" = some none
  no1 : findIn K (.ref C) n1 = some none
  no2 : findIn K (.ref C) n2 = some none
  iC : findIn K (.ref C) "__init__" = some (some (.ref fI))
  sup : ks_superIn K C C "__init__" = some (some (.builtin "ValueError.__init__"))
  tC : typeIn K (.ref fI) = some (.type "function")
  kC : keepIn K (.ref C) = true
  exC : subIn K (.ref C) (.type "BaseException") = some true
  veC : subIn K (.ref C) (.type "ValueError") = some true
  meC : mroIn K C (.ref C) = some true
  tyC : typeIn K (.ref C) = some (.type "type")
  hdC : hasDictIn K C = true
  stat : nsIn K cStatics "thirdparty.any" = some none
  gS : mg "super" = none
  fn : ∃ (oc : Value) (od : Option Addr) (qn : Str) (doc pm : Value) (an : Option Addr) (cda : Addr) (ct : Value) (osl : Array (Option Value)) (cc : Addr) (p0 p1 p2 q1 q2 q3 q4 q5 q6 q7 r1 r2 r3 r4 t1 t2 t3 t4 : Pos),
    (q3.endLine == q6.line) = true ∧ K.lookup fI = some ⟨oc, od, .func (ksFn "__init__" qn (iA n1 n2 p0 p1 p2) (iB n1 n2 q1 q2 q3 q4 q5 q6 q7 r1 r2 r3 r4 t1 t2 t3 t4) (iS n1 n2) .none .none doc pm an (.ref cda) ct cc), osl⟩ ∧ codeIn K (.ref cda) qn = true ∧
    (∃ ccl cdd vs ccs file tf, K.lookup cda = some ⟨ccl, cdd, .fields vs, ccs⟩ ∧ vs[2]? = some (.str file tf) ∧ ((prog.main.file : Str) == file) = true) ∧
    (∃ cl cld csl, K.lookup cc = some ⟨cl, cld, .cell (some (.ref C)), csl⟩)
  top : (prog.main.scope.names.lookup ("super" : Str)).isSome = false
theorem ldX {M : Model} {s : Shared} {name : Str} {scope : Scope} {L a cc : Addr} {cd : Value} {m : Str → Option Value} {x : Str} {pos : Pos} {v : Value} {Q : Value → Shared → Prop} {A : Around} {E : Value → Shared → Prop} (hn : s.heap.Ns L m) (hv : m x = some v)
    (hl : scope.names.lookup x = some .local) (hd : (x == ("__debug__" : Str)) = false) (hk : scope.kind = .function) (h : Q v s) :
    wpAny M A (eval (.Name x pos) (ksEnv name scope L a cd cc)) Q E s := wpAny_Name (wpAny_loadName_local hk hl hn hv h) hd
/-- what __init__ leaves of a fresh exception at x -/
structure InitEnd (n1 n2 : Str) (h h' : Heap) (x C dx t1 : Addr) (v1 v2 : Value) : Prop where
  keep : ∀ b o, h.get? b = some o → h'.get? b = some o
  obj : h'.get? x = some (excObj C t1 (some dx) .none)
  dbig : h.objs.size ≤ dx
  dne : dx ≠ x
  ns : h'.Ns1 dx (fun y => if y = n2 then some v2 else if y = n1 then some v1 else none)
structure OwnMade (n1 n2 : Str) (h h' : Heap) (e C d : Addr) (v1 v2 : Value) : Prop where
  keep : ∀ b o, h.get? b = some o → h'.get? b = some o
  new : h.objs.size ≤ e
  obj : ∃ oe vs, h'.get? e = some oe ∧ oe.cls = .ref C ∧ oe.dict = some d ∧ oe.data = .fields vs ∧ vs[1]? = some .none
  dbig : h.objs.size ≤ d
  dne : d ≠ e
  ns : h'.Ns1 d (fun y => if y = n2 then some v2 else if y = n1 then some v1 else none)
section
variable {prog : Program} {w : World} {A : Around} {E : Value → Shared → Prop} {R : Result → Shared → Prop} {s : Shared} {K : Frag} {mg mb : Str → Option Value} {C fI : Addr} {n1 n2 : Str}
theorem ev_mc {o : Expr} {name : Str} {apos pos : Pos} {a b : Expr} {env : Env} (hl : (apos.endLine == pos.line) = true)
    (hf : methodCallForm 2 (backTo pos (starEach [a, b] env)) (backToKw pos (keywordEach [] env)) = true) :
    eval (.Call (.Attribute o name apos) [a, b] [] pos) env = (do
      let ov ← attributeBase o name env (eval o env)
      standAt apos.atName
      let (f, first) ← holding [ov] (getMethod ov name (do return (← importBound o env).getD true))
      callWith pos f first (backTo pos (starEach [a, b] env)) []) := by
  rw [arm_eval_Call]
  have hp : methodCallPos true o env apos pos = pure pos := by
    unfold methodCallPos
    rw [if_pos (by rw [hl]; rfl)]
  have key : ∀ ov, methodCall o name apos pos env ov 2 (backTo pos (starEach [a, b] env)) (backToKw pos (keywordEach [] env)) = (do
      let (f, first) ← holding [ov] (getMethod ov name (do return (← importBound o env).getD true))
      callWith pos f first (backTo pos (starEach [a, b] env)) []) := fun ov => by
    unfold methodCall
    rw [hf, hp]
    simp only [pure_bind]
    rfl
  show (do
    let ov ← attributeBase o name env (eval o env)
    standAt apos.atName
    methodCall o name apos pos env ov 2 (backTo pos (starEach [a, b] env)) (backToKw pos (keywordEach [] env))) = _
  simp only [key]
/-- super(), with no Top at hand -/
theorem node {L : Addr} {h₀ : Heap} {m : Str → Option Value} {news : List (Addr × Obj)} {D x f cc cda : Addr} {ox : Obj} {odx : Option Obj} {body : List Stmt} {q : Str} {scope : Scope} {p0 p1 : Pos} {attr : Str} {whole : Sem Value} {fd : FuncData} {ar : Arg} {vs : Array Value} {file : Str} {tf : Tok} {oc ccl cl : Value} {od cdd cld : Option Addr} {osl ccs csl : Array (Option Value)} {cdD : ClassData} {Q : Value → Shared → Prop}
    (F : Fr h₀ L s.heap m) (X₀ : K.In h₀) (N : News h₀ L s.heap news) (G : h₀.Ns mainGlobals mg) (B : h₀.Ns builtinsNs mb) (hG : mg "super" = none) (hB : mb "super" = some (.type "super"))
    (hf : K.lookup f = some ⟨oc, od, .func fd, osl⟩) (hp : (fd.params.posonlyargs ++ fd.params.args).head? = some ar) (hv : m ar.arg = some (.ref x)) (I : InstAt s.heap x ox C odx)
    (hcode : K.lookup cda = some ⟨ccl, cdd, .fields vs, ccs⟩) (hvs : vs[2]? = some (.str file tf)) (hfile : ((prog.main.file : Str) == file) = true)
    (hcell : K.lookup cc = some ⟨cl, cld, .cell (some (.ref D)), csl⟩) (hD : clsIn K D = some cdD) (hsub : mroIn K C (.ref D) = some true)
    (hat : (attr == ("__class__" : Str)) = false) (hks : scope.names.lookup ("super" : Str) = some .globalImplicit) (hkc : scope.names.lookup ("__class__" : Str) = some .free) (hka : scope.names.lookup ar.arg = some .local) (hk : scope.kind = .function)
    (htop : (prog.main.scope.names.lookup ("super" : Str)).isSome = false)
    (h : ∀ so h', Fr h₀ L h' m → News h₀ L h' ((so, ks_superObj D x C) :: news) → (∀ p ∈ news, p.1 < so) → Q (.ref so) { s with heap := h' }) :
    _root_.PySem.wpAt (model prog w) A (.func body (ksEnv q scope L f (.ref cda) cc)) (attributeBase (.Call (.Name "super" p0) [] [] p1) attr (ksEnv q scope L f (.ref cda) cc) whole) Q E s := by
  have X : K.In s.heap := X₀.keeps F.keep
  obtain ⟨hh, g, d, t, os⟩ := s
  obtain ⟨oD, hD1, hD2⟩ : ∃ oD, hh.get? D = some oD ∧ oD.data = .cls cdD := by
    unfold clsIn at hD
    split at hD
    · rename_i c d cd' sl ho
      cases hD
      exact ⟨_, X _ _ ho, rfl⟩
    · cases hD
  refine ks_wpAt_super_base (env := ksEnv q scope L f (.ref cda) cc) hks hkc hat rfl (X _ _ hf) rfl hp rfl (X _ _ hcode) rfl hvs hfile htop ?_
  refine ks_loadName_global hk hks (loadGlobal_builtin (env := ksEnv q scope L f (.ref cda) cc) (G.keeps F.keep) hG (B.keeps F.keep) hB ⟨rfl, ?_⟩)
  refine wpAny_loadName_free hk hkc rfl ⟨_, X _ _ hcell, rfl⟩ ?_
  refine wpAny_loadName_local hk hka F.ns hv ?_
  refine ks_wpAny_isType_cls hD1 hD2 ⟨rfl, ?_⟩
  refine ks_wpAny_call_super hD1 hD2 I.at_ I.cls (fun c e => ?_) (looks_mroIn X hsub) (fun h' e k => ?_)
  · have := I.no
    unfold notCls at this
    rw [e] at this
    exact Bool.noConfusion this
  · obtain ⟨F', N', l'⟩ := ks_newsPush (s := ⟨hh, g, d, t, os⟩) F N rfl e k
    exact h _ _ F' N' l'
theorem init (NM : Nm n1 n2) (T : Txt n1 n2 prog K mg C fI) {hp : Heap} {x t0 : Addr} {v1 v2 : Value} (X : K.In hp) (G : hp.Ns mainGlobals mg) (B : hp.Ns builtinsNs mb) (hB : mb "super" = some (.type "super"))
    (kp : ∀ b o, hp.get? b = some o → s.heap.get? b = some o) (hsz : hp.objs.size ≤ s.heap.objs.size) (hx0 : hp.get? x = none)
    (hlim : s.heap.NoLimit) (hx : s.heap.get? x = some (excO C t0)) (hroom : A.depth < recursionLimit)
    (hq : ∀ h' tk dx t1, InitEnd n1 n2 hp h' x C dx t1 v1 v2 → R (.ok (.ret .none)) { s with heap := h', toks := tk }) :
    codeAny (model prog w) A (.call (.ref fI) ⟨[.ref x, v1, v2], []⟩) R s := by
  obtain ⟨oc, od, qn, doc, pm, an, cda, ct, osl, cc, p0, p1, p2, q1, q2, q3, q4, q5, q6, q7, r1, r2, r3, r4, t1, t2, t3, t4, hln, ho, hcd, ⟨ccl, cdd, cvs, ccs, file, tf, hcode, hvs, hfile⟩, cl, cld, csl, hcell⟩ := T.fn
  obtain ⟨nm, q, N, bs, bm, sn, sub, ab, col, dd, k0, k1, k2, k3, k5, hC, hbm⟩ := T.cls
  have hcl : clsIn K C = some { name := nm, bases := bs, mro := .ref C :: bm, ns := N, qualname := q, hasDict := true, slotNames := sn, subclasses := sub, abstract := ab, collection := col, hasDel := false } := by unfold clsIn; rw [hC] <;> rfl
  have Xs := X.keeps kp
  refine ks_codeAny_call_defAt (binds := [("self", .ref x), (n1, v1), (n2, v2)]) hroom (Xs _ _ ho) rfl hlim (codeRec_of Xs hcd) rfl (NM.bnd _ _ _ _ _ _ _ _ _ _ _ _ _ _ _) ?_ ?_ (fun h₁ hns hk₁ => ?_) rfl rfl rfl
  · show ∀ y ∈ (iS n1 n2).names, y.2 ≠ .cell
    intro y hy
    simp only [iS, List.mem_cons, List.not_mem_nil, or_false] at hy
    rcases hy with rfl | rfl | rfl | rfl | rfl <;> simp
  · intro y hy
    simp only [List.mem_cons, List.not_mem_nil, or_false] at hy
    rcases hy with rfl | rfl | rfl
    · exact NM.loc _ (by simp)
    · exact NM.loc _ (by simp)
    · exact NM.loc _ (by simp)
  have hxL : x ≠ s.heap.objs.size := Nat.ne_of_lt (Heap.lt_size hx)
  have hx₁ := hk₁ _ _ hx
  have FR : Fr hp s.heap.objs.size h₁ (fun y => ([(("self" : Str), .ref x), (n1, v1), (n2, v2)].reverse).lookup y) := ⟨hns, fun b o e => hk₁ b o (kp b o e), hsz⟩
  have NW : News hp s.heap.objs.size h₁ [(x, excObj C t0 none .none)] := fun p hp' => by
    rcases List.mem_singleton.mp hp' with rfl
    exact ⟨hx₁, hxL, hx0⟩
  have lS := NM.loc ("self" : Str) (by simp)
  have l1 := NM.loc n1 (by simp)
  have l2 := NM.loc n2 (by simp)
  show _root_.PySem.wpAt _ _ (.func (iB n1 n2 q1 q2 q3 q4 q5 q6 q7 r1 r2 r3 r4 t1 t2 t3 t4) (ksEnv qn (iS n1 n2) s.heap.objs.size fI (.ref cda) cc)) (execs (iB n1 n2 q1 q2 q3 q4 q5 q6 q7 r1 r2 r3 r4 t1 t2 t3 t4) (ksEnv qn (iS n1 n2) s.heap.objs.size fI (.ref cda) cc)) _ _ _
  unfold iB
  refine ks_wpAt_execs_cons (ks_wpAt_Expr_any (ks_wpAt_MethodCall ?_ (ev_mc hln rfl)))
  refine node (fd := ksFn "__init__" qn (iA n1 n2 p0 p1 p2) _ (iS n1 n2) .none .none doc pm an (.ref cda) ct cc) FR X NW G B T.gS hB ho rfl (NM.lS _ _ _) (InstAt.of_exc0 NW (List.mem_singleton.mpr rfl)) hcode hvs hfile hcell hcl T.meC (by decide) NM.sup NM.cls lS rfl T.top (fun so h₂ F₂ N₂ lt₂ => ?_)
  refine kxs_method kxs_ValueError F₂ X N₂ (List.mem_cons_self ..) (InstAt.of_exc0 (t := t0) (c2 := .none) N₂ (by simp)) T.stat T.sup T.veC (by decide) (fun u h₃ F₃ N₃ lt₃ => ?_)
  have e3 : s.heap.objs.size ≠ u := fun z => by
    have := (N₃ (u, kxs_mw "ValueError.__init__" x) (List.mem_cons_self ..)).2.1
    exact this z.symm
  show wpAny _ _ (callWith _ (.ref u) [] _ []) _ _ _
  refine kxs_callWith1 N₃ (List.mem_cons_self ..) ?_
  refine args_cons (ldX (v := v1) F₃.ns (NM.l1 _ _ _) l1 NM.d1 rfl ?_)
  refine args_cons (ldX (v := v2) F₃.ns (NM.l2 _ _ _) l2 NM.d2 rfl ?_)
  refine spliced_nil ⟨kxs_at N₃ (List.mem_cons_self ..), ?_⟩
  have so_lt : x < so := lt₂ (x, excObj C t0 none .none) (by simp)
  have u_lt1 : so < u := lt₃ (so, ks_superObj C x C) (by simp)
  refine kxs_call (t := t0) (dv := none) (c2 := .none) F₃ X N₃ F.excBase_ValueError T.exI (List.mem_cons_self ..) (.tail (Nat.ne_of_gt (Nat.lt_trans so_lt u_lt1)) (.tail (Nat.ne_of_gt so_lt) (.head (fun _ hm => nomatch hm)))) (by rw [sizeLine_eq]; exact (by decide : 2 ≤ 16777216)) (fun t' h₄ F₄ N₄ lt₄ => ?_)
  have hx₄ : h₄.get? x = some (excObj C t' none .none) := (N₄ (x, excObj C t' none .none) (by simp)).1
  have X₄ : K.In h₄ := X.keeps F₄.keep
  have big : hp.objs.size ≤ h₄.objs.size := Nat.le_trans hsz (Nat.le_of_lt F₄.ns.lt)
  refine wpAt_of_wpAny ?_
  refine wpAny_execs_cons (plainObj_wpAny_Assign_Attribute ?_)
  refine ldX (v := v1) F₄.ns (NM.l1 _ _ _) l1 NM.d1 rfl (ldX (v := .ref x) F₄.ns (NM.lS _ _ _) lS (by decide) rfl ?_)
  refine set_plain X₄ (ox := excObj C t' none .none) (od := none) ⟨hx₄, rfl, rfl, trivial⟩ T.sa ?_
  refine exc_osa X₄ hx₄ hcl (show refsVE (.ref C :: bm) = true from hbm) rfl T.no1 (fun h₅ tk₅ dx k₅ dn dne hx₅ hn₅ => ?_)
  have old₅ : ∀ b o, hp.get? b = some o → h₅.get? b = some o := fun b o e => k₅ b o (fun z => by rw [z, hx0] at e; cases e) (F₄.keep b o e)
  have X₅ : K.In h₅ := X.keeps old₅
  have F₅ : h₅.Ns s.heap.objs.size (fun y => ([(("self" : Str), .ref x), (n1, v1), (n2, v2)].reverse).lookup y) := F₄.ns.at fun o q => k₅ _ _ (Ne.symm hxL) q
  show wpAny _ _ (execs _ _) _ _ _
  refine wpAny_execs_cons (plainObj_wpAny_Assign_Attribute ?_)
  refine ldX (v := v2) F₅ (NM.l2 _ _ _) l2 NM.d2 rfl (ldX (v := .ref x) F₅ (NM.lS _ _ _) lS (by decide) rfl ?_)
  obtain ⟨oD, _, _, hoD, _⟩ := id hn₅
  refine set_plain X₅ (ox := excObj C t' (some dx) .none) (od := some oD) ⟨hx₅, rfl, rfl, hoD⟩ T.sa ?_
  refine OEX.osa_old X₅ hx₅ hn₅ (nl := [n1]) (fun y hy => ?_) (by show 1 ≤ 1000; decide) hcl (show refsVE (.ref C :: bm) = true from hbm) rfl T.no2 (fun h₆ tk₆ k₆ hn₆ => ?_)
  · by_cases e : y = n1
    · rw [e]; exact List.mem_singleton.mpr rfl
    · exact absurd (if_neg e) hy
  show wpAny _ _ (execs _ _) _ _ _
  have dbig := Nat.le_trans big dn
  exact wpAny_execs_nil (hq h₆ tk₆ dx t' ⟨fun b o e => k₆ b o (Nat.ne_of_lt (Nat.lt_of_lt_of_le (Heap.lt_size e) dbig)) (old₅ b o e), k₆ _ _ (Ne.symm dne) hx₅, dbig, dne, hn₆⟩)
theorem made (NM : Nm n1 n2) (T : Txt n1 n2 prog K mg C fI) {v1 v2 : Value} (X : K.In s.heap) (G : s.heap.Ns mainGlobals mg) (B : s.heap.Ns builtinsNs mb) (hB : mb "super" = some (.type "super")) (hlim : s.heap.NoLimit) (hroom : A.depth + 1 < recursionLimit)
    (hq : ∀ h' tk e d, OwnMade n1 n2 s.heap h' e C d v1 v2 → R (.ok (.ret (.ref e))) { s with heap := h', toks := tk }) :
    codeAny (model prog w) A (.call (.ref C) ⟨[v1, v2], []⟩) R s := by
  obtain ⟨nm, q, N, bs, bm, sn, sub, ab, col, dd, k0, k1, k2, k3, k5, hC, hbm⟩ := T.cls
  obtain ⟨hp, g, dr, tk, os⟩ := s
  have k : ∀ b o, hp.get? b = some o → ((hp.push (kdv_tup [v1, v2])).push (excO C hp.objs.size)).get? b = some o := fun b o e => Heap.get?_push_of_some _ (Heap.get?_push_of_some _ e)
  have hget : ((hp.push (kdv_tup [v1, v2])).push (excO C hp.objs.size)).get? (hp.objs.size + 1) = some (excO C hp.objs.size) := by heap_get
  have hx0 : hp.get? (hp.objs.size + 1) = none := by
    cases e : hp.get? (hp.objs.size + 1) with
    | none => rfl
    | some o => exact absurd (Nat.lt_of_succ_lt (Heap.lt_size e)) (Nat.lt_irrefl _)
  refine call_own F.excBase_ValueError (fun X => refsVE_contains X bm hbm) (X _ _ hC) (looks_findIn X T.iC) (fun self => bind_fn X self T.tC) (by rw [sizeLine_eq]; exact (by decide : 2 ≤ 16777216)) ?_
  refine init (s := ⟨(hp.push (kdv_tup [v1, v2])).push (excO C hp.objs.size), g, dr, tk, os⟩) NM T X G B hB k ?_ hx0 (hlim.keeps k) hget ?_ fun h' tk' dx t1 ⟨k', hx, dn, dne, hns⟩ => ?_
  · show hp.objs.size ≤ ((hp.push (kdv_tup [v1, v2])).push (excO C hp.objs.size)).objs.size
    rw [Heap.size_push, Heap.size_push]
    omega
  · show A.depth + 1 < recursionLimit
    exact hroom
  · exact ⟨rfl, hq h' tk' (hp.objs.size + 1) dx ⟨k', Nat.le_succ _, ⟨_, _, hx, rfl, rfl, rfl, rfl⟩, dn, dne, hns⟩⟩
end
end WAX
end PySem
end
section
set_option Elab.async false
set_option linter.all false
set_option maxRecDepth 100000
set_option autoImplicit false
set_option maxHeartbeats 4000000
/-! DL30: raise of an own exception of two fields. -/
namespace DL
open PySem PySem.Spec PyProof.Rows L2 LamX
section
variable {X : Cx} {C fI : Addr} {n1 n2 : Str}
def tMk2 (C : Addr) (n1 n2 : Str) (ta : TA) : L2.St → Hp → XK → Prop := fun σ H Q => ta σ H fun vs H1 => ∃ v1 v2, vs = [v1, v2] ∧ ∀ d, H1 d = none → Q (.ref C) (some d) (upd H1 d (.xd [(n2, v2), (n1, v1)]))
theorem pmk2 {a b : Expr} {ta : TA} {x : Str} {p pos : Pos} {k : Nat} (NM : WAX.Nm n1 n2) (T : WAX.Txt n1 n2 X.prog X.K X.mg C fI) (hx : X.mg x = some (.ref C)) (hr : Room k X.A) (ha : PA X [a, b] ta) (hg : Gl X x) (hdb : (x == ("__debug__" : Str)) = false)
    (he : starEach (a :: [b]) X.env = (false, eval a X.env) :: starEach [b] X.env := by rfl) (hpl : (backTo pos (starEach [b] X.env)).any (·.1) = false := by rfl) :
    PMk X (.Call (.Name x p) [a, b] [] pos) (tMk2 C n1 n2 ta) := by
  intro pins s σ H Q I h
  refine wpAny_Call_Name_kw (ld_glob I hg hx ?_ hdb)
  refine PySem.W.callWith_K (h₀ := X.base) I.ok.mod.kin T.kC (thn (ha.run pos pins s σ H _ I h) fun us s1 hh => ?_) he hpl
  obtain ⟨vs, H1, I1, r1, v1, v2, ev, q1⟩ := hh
  subst ev
  refine ⟨I1.kIn, ?_⟩
  cases r1 with
  | cons rv rn =>
    rename_i v1' us'
    cases rn with
    | cons rv2 rn2 =>
      rename_i v2' us'
      cases rn2
      show wpAny _ _ (call (.ref C) [v1', v2']) _ _ _
      have hlim := I1.nolimit
      obtain ⟨mb, hb1, hb2⟩ := I1.mod.blt
      have G := I1.mod.glob.keeps I1.bk
      have B := hb1.keeps I1.bk
      obtain ⟨hp, g, dr, tk, os⟩ := s1
      refine wpAny_call (WAX.made NM T I1.kIn G B ((hb2 "super" (by decide)).trans (by decide +kernel)) hlim (by have := hr.dp; omega) fun h' tk' e d M => ?_)
      show MkP X pins σ Q (.ref e) ⟨h', g, dr, tk', os⟩
      obtain ⟨oe, fv, hoe, hc, hd, hdat, h1⟩ := M.obj
      have hns := M.ns
      obtain ⟨G', g1, g2⟩ := restrict h' fun b => decide (b ≠ e)
      have gk : ∀ b, b ≠ e → G'.get? b = h'.get? b := fun b hb => g1 b (decide_eq_true hb)
      have ge : G'.get? e = none := g2 e (by simp)
      have old : ∀ b o, hp.get? b = some o → G'.get? b = some o := fun b o q => (gk b (Nat.ne_of_lt (Nat.lt_of_lt_of_le (Heap.lt_size q) M.new))).trans (M.keep b o q)
      have ob : ObjOk X.prog X.w (upd H1 d (.xd [(n2, v2), (n1, v1)])) G' d (.xd [(n2, v2), (n1, v1)]) :=
        ⟨_, hns.at (fun o q => (gk d M.dne).trans q), fun f => relO_put (fs := [(n1, v1)]) rv2 (fun f => relO_put (fs := []) (mA := fun _ => none) rv (fun _ => True.intro) f) f⟩
      have J : Inv X pins σ (upd H1 d (.xd [(n2, v2), (n1, v1)])) ⟨G', g, dr, tk', os⟩ := I1.laid (t' := tk') old M.dbig ob
      refine ⟨e, oe, fv, ⟨G', g, dr, tk', os⟩, _, .ref C, some d, rfl, J, fun b o q => ?_, ge, hoe, ⟨hc, hd⟩, hdat, h1, ?_, rfl, I1.bare, raises_own T.exC T.tyC, q1 d (I1.hok.fresh M.dbig)⟩
      · by_cases hb : b = e
        · have q' : G'.get? b = some o := q
          rw [hb, ge] at q'; cases q'
        · exact (gk b hb).symm.trans q
      · rw [upd_ne (Ne.symm M.dne)]
        exact I1.hok.fresh M.new
end
section
variable {Z : Fix} {W : WX} {P : Fns} {u : Under} {X : Cx} {a b : Expr} {A : Es} {x n1 n2 : Str} {p pos pos2 : Pos} {fI : Addr} {k c : Nat}
theorem s_raise (g : Gd Z X) (tk : Takes X W) (NM : WAX.Nm n1 n2) (T : WAX.Txt n1 n2 X.prog X.K X.mg (Z.ca c) fI) (hc : Z.cf c = [n1, n2]) (hx : X.mg x = some (.ref (Z.ca c))) (hr : Room k X.A) (ha : RA Z W P X [a, b] A)
    (hf : A.fix = some 2 := by rfl) (hg : Gl X x := by rfl) (hdb : (x == ("__debug__" : Str)) = false := by decide)
    (he : starEach (a :: [b]) X.env = (false, eval a X.env) :: starEach [b] X.env := by rfl) (hpl : (backTo pos (starEach [b] X.env)).any (·.1) = false := by rfl) :
    RS Z W P u X (.Raise (some (.Call (.Name x p) [a, b] [] pos)) none pos2) (.raise c A) :=
  PS.imp (ps_raise g.calm tk (pmk2 NM T hx hr ha hg hdb he hpl)) fun E σ H ⟨φ, ρ, M, at_, q⟩ => by
    rw [exec] at q
    refine ⟨φ, ρ, M, at_, ?_⟩
    cases er : evs P A ρ M with
    | ok ds M1 =>
      rw [er] at q
      have hlen := fix_len hf er
      intro φ1 vs H1 s1 i1
      have hl : vs.length = 2 := by rw [← i1.length, hlen]
      match vs, hl, i1 with
      | [v1, v2], _, i1 =>
        refine ⟨v1, v2, rfl, fun d hd => ?_⟩
        have s2 := s1.trans (step_new (o := .xd [(n2, v2), (n1, v1)]) s1.m hd)
        refine q φ1 _ _ σ _ s2 (s2.repE at_.e) ⟨rfl, d, [v1, v2], rfl, ?_, by rw [hc]; rfl, (step_new (o := .xd [(n2, v2), (n1, v1)]) s1.m hd).iss i1⟩
        rw [hc]
        exact out_of (s1.m.fresh hd) upd_same
    | ex c' ds M1 =>
      rw [er] at q
      exact fun φ' cls dx H' s i => q φ' cls dx σ H' s (s.repE at_.e) i
    | no =>
      rw [er] at q
      exact q.elim
end
end DL
end
section
set_option Elab.async false
set_option linter.all false
set_option maxRecDepth 100000
set_option autoImplicit false
set_option maxHeartbeats 4000000
/-! DL31: a def that calls the lambda it got: try: return (gave, a()) / except C as e: return (lit, e.f1, e.f2). -/
namespace DL
open PySem PySem.Spec PyProof.Rows L2 LamX
/-- what such a def gives -/
def heard (c : Nat) (gave lit : List Nat) (th : Store → R D) : Store → R D := fun M => match th M with
  | .ok d M' => .ok (.tup [.str gave, d]) M'
  | .ex c' ds M' => if c' = c then (match ds with
    | [a, b] => .ok (.tup [.str lit, a, b]) M'
    | _ => .no) else .no
  | .no => .no
def TTh (C : Addr) (f1 f2 gave lit : Str) : (XK → Hp → VK → Prop) → Hp → VK → Prop := fun tl H Q =>
  tl (fun cls d H' => cls = .ref C ∧ ∃ dd fs v1 v2, d = some dd ∧ H' dd = some (.xd fs) ∧ fs.lookup f1 = some v1 ∧ fs.lookup f2 = some v2 ∧ tTupF (fun _ H Q => Q [.str lit, v1, v2] H) [] H' Q) H
    (fun v H' => tTupF (fun _ H Q => Q [.str gave, v] H) [] H' Q)
section
variable {X : Cx}
theorem heard_gives {Ng : List Str} {x a e en q gave lit f1 f2 : Str} {sg : Scope} {g C : Addr} {cdg : Value} {j j2 k k2 : Nat} {p0 p1 p2 p3 p4 p5 p6 p7 p8 p9 p10 p11 p12 p13 p14 : Pos}
    (hge : sg.names.lookup e = some .globalImplicit) (hme : X.mg e = some (.ref C)) (T : XfC X.K C) (n1 : PySem.W.findIn X.K (.ref C) f1 = some none) (n2 : PySem.W.findIn X.K (.ref C) f2 = some none) (hex : PySem.W.exmOne X.K (.ref C) (.ref C) = some true)
    (hN : Ng.Nodup) (hi : Ng[1]? = some en) (hl : Ng.length = 2) (hln : sg.names.lookup en = some .local)
    (hde : (e == ("__debug__" : Str)) = false := by decide) (hdn : (en == ("__debug__" : Str)) = false := by decide) (hcn : (en == ("__classdict__" : Str)) = false := by decide)
    (hb1 : ∀ env : PySem.Env, attributeBase (.Name en p10) f1 env (eval (.Name en p10) env) = eval (.Name en p10) env := by intros; rfl)
    (hb2 : ∀ env : PySem.Env, attributeBase (.Name en p12) f2 env (eval (.Name en p12) env) = eval (.Name en p12) env := by intros; rfl) :
    GivesTo X Ng x sg g cdg [.Try [.Return (some (.Tuple [.Constant (.str gave) j p0, .Call (.Name a p1) [] [] p2] k p9)) p3]
      [.ExceptHandler (some (.Name e p4)) (some en) [.Return (some (.Tuple [.Constant (.str lit) j2 p5, .Attribute (.Name en p10) f1 p11, .Attribute (.Name en p12) f2 p13] k2 p14)) p6] p7] [] [] p8] a q (TTh C f1 f2 gave lit) := by
  intro f c' s H Q tl act hc h
  have hgl : Gl (cxOf C8.CX0 X.prog X.w X.K X.mg X.base Ng x sg g cdg X.A X.stack s H C8.E0).nox e := hge
  refine ⟨_, pss_one (ps_try_as (X := (cxOf C8.CX0 X.prog X.w X.K X.mg X.base Ng x sg g cdg X.A X.stack s H C8.E0).nox) (c := .ref C) (i := 1)
      (tb := fun W D σ H => ∃ Ech : XK, (∀ cls d σ' H', Ech cls d H' → W cls d σ' H') ∧ σ[0]? = some (some (.ref f)) ∧ H c' = some (CodeO c' q) ∧ tl Ech H (fun v H' => tTupF (fun _ H Q => Q [.str gave, v] H) [] H' D.rt))
      (ts := fun a cls d D σ H => σ.length = 2 → tRet (tTupF (tCons (tC (.str lit)) (tCons (tXf a cls d C f1 (tVar 1)) (tCons (tXf a cls d C f2 (tVar 1)) tNil)))) D σ H)
      rfl rfl hN hi hln ⟨hgl, hde, .inl hme⟩ LamX.takes0 (fun W pn xe tk _ => ?_) (fun a oe cls d pn hz hf => ?_)), ?_⟩
  · refine ⟨fun pins s' σ H' D I h' => ?_⟩
    obtain ⟨Ech, hW, h1, h2, h3⟩ := h'
    have hp := act W pn xe Ech p1 p2 tk hW
    have hq := pss_one (ps_ret (pos := p3) (pe_tupF (pos := p9) (x1 := k) (pa_cons (pe_str (x := gave) (j := j) (pos := p0)) (pa_cons hp pa_nil))))
    exact hq.run pins s' σ H' D I ⟨h1, h2, h3⟩
  · refine ⟨fun pins s' σ H' D I h' => ?_⟩
    have hq := pss_one (ps_ret (pos := p6) (pe_tupF (pos := p14) (x1 := k2) (pa_cons (pe_str (x := lit) (j := j2) (pos := p5)) (pa_cons (pe_xf (X := (cxOf C8.CX0 X.prog X.w X.K X.mg X.base Ng x sg g cdg X.A X.stack s H C8.E0).nox) (a := a) (oe := oe) (pn := pn) (pos := p11) T n1 hz hf (pe_var (pos := p10) hi (.inl hln) hdn hcn) (hb1 _)) (pa_cons (pe_xf (X := (cxOf C8.CX0 X.prog X.w X.K X.mg X.base Ng x sg g cdg X.A X.stack s H C8.E0).nox) (a := a) (oe := oe) (pn := pn) (pos := p13) T n2 hz hf (pe_var (pos := p12) hi (.inl hln) hdn hcn) (hb2 _)) pa_nil)))))
    exact hq.run pins s' σ H' D I (h' (I.len.trans hl))
  · refine ⟨fun cls d H' => cls = .ref C ∧ ∃ dd fs v1 v2, d = some dd ∧ H' dd = some (.xd fs) ∧ fs.lookup f1 = some v1 ∧ fs.lookup f2 = some v2 ∧ tTupF (fun _ H Q => Q [.str lit, v1, v2] H) [] H' Q, fun cls d σ' H' ⟨e1, dd, fs, v1, v2, e2, e3, e4, e5, e6⟩ => ?_, ?_, hc, h⟩
    · subst e1
      refine ⟨true, hex, fun _ a ha hlen => ?_, fun z => by cases z⟩
      have h1 : (σ'.set 1 (some (V.ref a)))[1]? = some (some (.ref a)) := List.getElem?_set_self (by rw [List.length_set] at hlen; omega)
      exact ⟨.ref a, h1, rfl, rfl, dd, fs, v1, e2, e3, e4, .ref a, h1, rfl, rfl, dd, fs, v2, e2, e3, e5, e6⟩
    · match Ng, hl with
      | [_, _], _ => rfl
end
end DL
end
section
set_option Elab.async false
set_option linter.all false
set_option maxRecDepth 100000
set_option autoImplicit false
set_option maxHeartbeats 4000000
/-! DL32: f(lambda: b), f as in DL31. -/
namespace DL
open PySem PySem.Spec PyProof.Rows L2 LamX
/-- the def x calls the lambda that it gets, as heard tells -/
structure HeardD (Z : Fix) (K : PySem.W.Frag) (mg : Str → Option Value) (x : Str) (c : Nat) (gave lit : List Nat) (f1 f2 : Str) : Prop where
  e : ∃ (g : Addr) (a : Str) (Ng : List Str) (pg : Arguments) (bg : List Stmt) (sg : Scope) (dV kV doc pm cdv ct oc : Value) (an od : Option Addr) (osl : Array (Option Value)),
    mg x = some (.ref g) ∧ PySem.W.keepIn K (.ref g) = true ∧ K.lookup g = some ⟨oc, od, .func (PySem.W.fnOf x x pg bg sg dV kV doc pm an cdv ct), osl⟩ ∧ PySem.W.codeIn K cdv x = true ∧
    L2.Binds K (PySem.W.fnOf x x pg bg sg dV kV doc pm an cdv ct) [a] [] ∧ FnScope Ng [a] sg ∧ Ng[0]? = some a ∧ Vis sg a ∧ (a == ("__debug__" : Str)) = false ∧ (a == ("__classdict__" : Str)) = false ∧
    ∀ X : Cx, X.K = K → X.mg = mg → ∀ q, GivesTo X Ng x sg g cdv bg a q (TTh (Z.ca c) f1 f2 (cs gave) (cs lit))
  hc : Z.cf c = [f1, f2]
  hne : f1 ≠ f2
  ok1 : gave.all (fun c => decide (c < 1114112)) = true
  ok2 : lit.all (fun c => decide (c < 1114112)) = true
section
variable {Z : Fix} {W : WX} {P : Fns} {u : Under} {X : Cx} {φ : Ph} {H H1 : Hp} {M : Store} {σ : L2.St}
theorem tabs_out {T : List (Addr × Str)} (h : Tabs T (out φ H)) : Tabs T H := h.ext fun b o e => (out_some e).2
/-- the heap went on, without the store -/
theorem step_ext (m : RepM Z φ M H) (e : ExtN H H1) (t : Tabs Z.TT H1) : Step Z φ H φ H1 M := by
  have nS : ∀ a ∈ φ.s, ∃ o, H a = some o ∧ NTb o := fun a ha => by
    obtain ⟨n, hn, ea⟩ := List.getElem_of_mem ha
    obtain ⟨b, ho, h1, h2, h3⟩ := m.at_ n (M[n]'(by rw [← m.len]; exact hn)) (by simp)
    rw [List.getElem?_eq_getElem hn, ea] at h1
    cases h1
    refine ⟨ho, h2, ?_⟩
    revert h3
    cases M[n]'(by rw [← m.len]; exact hn) with
    | lst ds => rintro ⟨vs, rfl, _⟩; trivial
    | dict tk kvs => cases tk <;> (rintro ⟨vs, rfl, _⟩; trivial)
    | ins c fs => rintro ⟨_, _, rfl, _⟩; trivial
  have nt : ∀ {o : HO}, NTb o → ∀ ps, o ≠ .tbl ps := fun h ps z => by rw [z] at h; exact h
  have nA : ∀ a ∈ φ.all, ∃ o, H a = some o ∧ NTb o := fun a ha => (List.mem_append.mp ha).elim (m.hid a) (nS a)
  have k : ∀ a ∈ φ.all, H1 a = H a := fun a ha => by
    obtain ⟨o, e1, e2⟩ := nA a ha
    rw [e a o e1 (nt e2), e1]
  have ext : ExtN (out φ H) (out φ H1) := fun b o h n => by
    obtain ⟨h1, h2⟩ := out_some h
    exact out_of h1 (e b o h2 n)
  have tab : Tabs Z.TT (out φ H1) := fun p hp => by
    obtain ⟨ps, h1, h2, h3⟩ := t p hp
    obtain ⟨ps0, g1, _, _⟩ := m.tab p hp
    have np : p.1 ∉ φ.all := (out_some g1).1
    refine ⟨ps, out_of np h1, h2, fun pos cv hcv => ?_⟩
    obtain ⟨c, e1, e2⟩ := h3 pos cv hcv
    have nc : c ∉ φ.all := fun hc => by
      obtain ⟨o, g1, g2⟩ := nA c hc
      rw [k c hc, g1] at e2
      rw [Option.some.inj e2] at g2
      exact g2
    exact ⟨c, e1, out_of nc e2⟩
  exact ⟨⟨[], by simp [Ph.add]⟩, ext, fun a ha => k a (List.mem_append_left _ ha), m.len, m.nd, fun a ha => by rw [k a (List.mem_append_left _ ha)]; exact m.hid a ha, fun n o h => by
    obtain ⟨a, ho, h1, h2, h3⟩ := m.at_ n o h
    refine ⟨a, ho, h1, by rw [k a (List.mem_append_right _ (List.mem_of_getElem? h1))]; exact h2, ?_⟩
    exact IsO.hs (φ := φ.add []) (ψ := φ) (by simp [Ph.add]) (IsO.mono (Z := Z) (ν := []) ext h3), tab⟩
theorem r_told {k j c : Nat} {gave lit : List Nat} {f1 f2 x : Str} {cc PP : Addr} {params : Arguments} {body : Expr} {scope : Scope} {p lpos pos : Pos} {B : E} (hK : X.K = Z.K) (HD : HeardD Z X.K X.mg x c gave lit f1 f2) (hP : P.T j = heard c gave lit)
    (TB : TabB X.base X.mg cc PP) (hcode : X.env.code = .ref cc) (hmT : (PP, X.env.qual ++ "<lambda>") ∈ Z.TT) (hu : ∀ p ∈ Z.TT, p.1 = PP → p.2 = X.env.qual ++ "<lambda>") (hr : Room (k + 2) X.A)
    (hbody : ∀ (A : Around) (outer : List PySem.Env) (s : Shared) (H : Hp) (E : XK) (f c' : Addr), Room k (A.deeper (lamEnv X scope s.heap.objs.size f c')) → RE Z (fun cls d _ H => E cls d H) P (lamCx X A outer s H E scope f c') body B)
    (L : LamS X.env.scope scope) (hdef : defaultsOf params X.env = ([], []) := by rfl)
    (hbind : ∀ (q : Str) (cl : List (Str × Addr)) (pm cv ctv : Value), bindArgs (PySem.W.kla_fn "<lambda>" q params body scope cl pm cv ctv) ⟨[], []⟩ = pure [] := by intros; rfl)
    (hg : Gl X x := by rfl) (hdb : (x == ("__debug__" : Str)) = false := by decide) : RE Z W P X (.Call (.Name x p) [.Lambda params body scope lpos] [] pos) (.told j B) := by
  obtain ⟨g, a, Ng, pg, bg, sg, dV, kV, doc, pm, cdv, ct, oc, an, od, osl, hm, hk, lk, hcg, hb, Sg, hNg, hva, hda, hca, hG⟩ := HD.e
  refine PE.imp (pe_lamcall (T := Z.TT) (t := fun E => tE Z (fun cls d _ H => E cls d H) (ev P B)) hg hm hk lk hcg hb Sg hNg hva (hG X rfl rfl _) TB hcode hmT hu hr L hdef hbind hbody hdb hda hca) fun σ H Q ⟨φ, ρ, M, at_, q⟩ => ?_
  rw [ev] at q
  rw [hP] at q
  refine ⟨tabs_out at_.m.tab, fun H1 eH T1 => ?_⟩
  have s1 := step_ext at_.m eH T1
  replace q := post.rebase s1 q
  refine ⟨φ, ρ, M, s1.at_ at_, ?_⟩
  simp only [heard] at q
  cases er : ev P B ρ M with
  | ok d M' =>
    rw [er] at q
    intro φ2 v H2 s2 i2
    have q := post.rebase s2 q
    refine ⟨by show 2 ≤ sizeLine; rw [← line_eq]; decide, ?_⟩
    exact post.newT' q s2.m (Iss.cons (by rw [Is]; exact ⟨rfl, HD.ok1⟩) (Iss.cons i2 Iss.nil))
  | ex c' ds M' =>
    rw [er] at q
    intro φ2 cls dx H2 s2 ix
    by_cases ec : c' = c
    · simp only [if_pos ec] at q
      subst ec
      obtain ⟨e1, dd, vs, e2, e3, e4, e5⟩ := ix
      rw [HD.hc] at e3 e4
      match ds, q, e5 with
      | [da, db], q, e5 =>
        replace q : post Z (Is Z) W σ φ H1 (R.ok (.tup [.str lit, da, db]) M') Q := q
        replace q := post.rebase s2 q
        obtain ⟨v1, r1, rfl, i1, e6⟩ := e5.inv
        obtain ⟨v2, r2, rfl, i2, e7⟩ := e6.inv
        cases e7.inv0
        have e3' : H2 dd = some (.xd [(f2, v2), (f1, v1)]) := (out_some e3).2
        refine ⟨e1, dd, _, v1, v2, e2, e3', ?_, ?_, by show 3 ≤ sizeLine; rw [← line_eq]; decide, ?_⟩
        · rw [lookup_put, if_neg HD.hne, lookup_put, if_pos rfl]
        · rw [lookup_put, if_pos rfl]
        · exact post.newT' q s2.m (Iss.cons (by rw [Is]; exact ⟨rfl, HD.ok2⟩) (Iss.cons i1 (Iss.cons i2 Iss.nil)))
      | [], q, _ => exact q.elim
      | [_], q, _ => exact q.elim
      | _ :: _ :: _ :: _, q, _ => exact q.elim
    · simp only [if_neg ec] at q
      exact q.elim
  | no =>
    rw [er] at q
    exact q.elim
end
end DL
end
section
set_option Elab.async false
set_option linter.all false
set_option maxRecDepth 100000
set_option autoImplicit false
set_option maxHeartbeats 4000000
/-! DL33: calls of defs with keyword-only defaults; raise, told, written dicts in short. -/
namespace DL
open PySem PySem.Spec PyProof.Rows L2 LamX
/-- n positional parameters, then keyword-only ones ks, their defaults dd -/
structure TpK (Z : Fix) (P : Program) (w : World) (K : PySem.W.Frag) (mg : Str → Option Value) (base : Heap) (k : Nat) (Pf : Fns) (i : Nat) (x : Str) (ps : List Str) (n : Nat) (ks : List Str) (dd : List D) : Prop where
  ex : ∃ fd, TpF Z P w K mg base k Pf i x ps fd ∧ (∃ dvs dsv, Binds K fd ps dsv ∧ Vals dvs dsv ∧ ∀ φ G, Iss Z φ G dd dvs) ∧ KBn K fd ps n ks (fun us ws => us ++ ws) (fun vs zs => vs ++ zs)
  len : n + ks.length = ps.length
  dl : dd.length = ks.length
theorem pick_dd : ∀ (ds dd : List D), pick ds (dd.map .inr) = some dd
  | ds, [] => rfl
  | ds, d :: dd => by
    show (pick ds (dd.map .inr)).map (d :: ·) = _
    rw [pick_dd ds dd]
    rfl
theorem pick_app : ∀ (ds : List D) (p q : List (Sum Nat D)) (a b : List D), pick ds p = some a → pick ds q = some b → pick ds (p ++ q) = some (a ++ b)
  | ds, [], q, a, b, h1, h2 => by
    cases h1
    exact h2
  | ds, .inl i :: p, q, a, b, h1, h2 => by
    simp only [pick] at h1
    split at h1
    · rename_i d as e1 e2
      cases h1
      show pick ds (.inl i :: (p ++ q)) = _
      simp only [pick, e1, pick_app ds p q as b e2 h2]
      rfl
    · cases h1
  | ds, .inr d :: p, q, a, b, h1, h2 => by
    simp only [pick] at h1
    cases e : pick ds p with
    | none => rw [e] at h1; cases h1
    | some as =>
      rw [e] at h1
      cases h1
      show pick ds (.inr d :: (p ++ q)) = _
      simp only [pick, pick_app ds p q as b e h2]
      rfl
section
variable {Z : Fix} {W : WX} {P : Fns} {u : Under} {X : Cx} {x : Str} {e a b : Expr} {es : List Expr} {A B : Es} {p pos pos2 : Pos} {k n : Nat} {ps ks : List Str} {dd : List D}
/-- the defaults stand -/
theorem calld_ (tk : Takes X W) (j : Nat) (T : TpK Z X.prog X.w X.K X.mg X.base k P j x ps n ks dd) (hr : Room k X.A) (ha : RA Z W P X (e :: es) A) (hf : A.fix = some n := by rfl) (hg : Gl X x := by rfl) (hdb : (x == ("__debug__" : Str)) = false := by decide)
    (he : starEach (e :: es) X.env = (false, eval e X.env) :: starEach es X.env := by rfl) (hpl : (backTo pos (starEach es X.env)).any (·.1) = false := by rfl) :
    RE Z W P X (.Call (.Name x p) (e :: es) [] pos) (.call j (idPm n ++ dd.map .inr) A .nil) := by
  obtain ⟨fd, F, ⟨dvs, dsv, hb, hv, hd⟩, _⟩ := T.ex
  have l1 : dvs.length = dd.length := ((hd ⟨[], []⟩ (fun _ => none)).length).symm
  exact r_call (m := n) (dd := dd) (dvs := dvs) tk hg ⟨F.ok, hr, F.mg, F.keep⟩ hb hv hd (fun ds h => pick_app ds _ _ _ _ (pick_id h) (pick_dd ds dd)) (fun ρ M ds M' h => fix_len hf h) (by rw [l1, T.dl]; exact T.len) ha hdb he hpl
/-- the keywords are all written, in the parameters' order -/
theorem callk_ {kws : List Keyword} (tk : Takes X W) (j : Nat) (T : TpK Z X.prog X.w X.K X.mg X.base k P j x ps n ks dd) (hr : Room k X.A) (ha : RA Z W P X (e :: es) A) (hkw : RK Z W P X kws B) (hf : A.fix = some n := by rfl) (hf2 : B.fix = some ks.length := by rfl) (hg : Gl X x := by rfl) (hdb : (x == ("__debug__" : Str)) = false := by decide)
    (hall : (backToKw pos (keywordEach kws X.env)).all (·.1.isSome) = true := by rfl) (hks : (backToKw pos (keywordEach kws X.env)).filterMap (·.1) = ks := by rfl)
    (he : starEach (e :: es) X.env = (false, eval e X.env) :: starEach es X.env := by rfl) (hpl : ((backTo pos (starEach (e :: es) X.env)).any (·.1) || (backToKw pos (keywordEach kws X.env)).any (·.1.isNone)) = false := by rfl) :
    RE Z W P X (.Call (.Name x p) (e :: es) kws pos) (.call j (idPm (n + ks.length)) A B) := by
  obtain ⟨fd, F, _, hb⟩ := T.ex
  exact r_callK tk hg ⟨F.ok, hr, F.mg, F.keep⟩ hb (fun φ G ds zs vs ws h1 h2 i1 i2 => ⟨ds ++ zs, pick_id (by rw [List.length_append, h1, h2]), i1.app i2, by rw [List.length_append, ← i1.length, ← i2.length, h1, h2]; exact T.len⟩)
    (fun ρ M ds M' h => fix_len hf h) (fun ρ M ds M' h => fix_len hf2 h) ha hkw hall hks hdb he hpl
/-- own exceptions of two fields -/
structure TpX (Z : Fix) (P : Program) (K : PySem.W.Frag) (mg : Str → Option Value) (x : Str) (c : Nat) (n1 n2 : Str) : Prop where
  nm : WAX.Nm n1 n2
  tx : ∃ fI, WAX.Txt n1 n2 P K mg (Z.ca c) fI
  cf : Z.cf c = [n1, n2]
  mg : mg x = some (.ref (Z.ca c))
theorem raise_ {n1 n2 : Str} (g : Gd Z X) (tk : Takes X W) (c : Nat) (T : TpX Z X.prog X.K X.mg x c n1 n2) (hr : Room k X.A) (ha : RA Z W P X [a, b] A)
    (hf : A.fix = some 2 := by rfl) (hg : Gl X x := by rfl) (hdb : (x == ("__debug__" : Str)) = false := by decide)
    (he : starEach (a :: [b]) X.env = (false, eval a X.env) :: starEach [b] X.env := by rfl) (hpl : (backTo pos (starEach [b] X.env)).any (·.1) = false := by rfl) :
    RS Z W P u X (.Raise (some (.Call (.Name x p) [a, b] [] pos)) none pos2) (.raise c A) := by
  obtain ⟨fI, tx⟩ := T.tx
  exact s_raise g tk T.nm tx T.cf T.mg hr ha hf hg hdb he hpl
/-- a written dict of the module -/
structure TpW (Z : Fix) (K : PySem.W.Frag) (w : World) (mg : Str → Option Value) (P : Fns) (x : Str) (n : Nat) : Prop where
  ex : ∃ ad, mg x = some (.ref ad) ∧ WdOk Z K w ad (P.Wd n)
theorem wget_ {A : E} (n : Nat) (T : TpW Z X.K X.w X.mg P x n) (ha : RE Z W P X a A) (hg : Gl X x := by rfl) (hs : PlainIx a := by exact fun _ _ => rfl) (hx : (x == ("__debug__" : Str)) = false := by decide) : RE Z W P X (.Subscript (.Name x p) a pos) (.wget n A) := by
  obtain ⟨ad, h1, h2⟩ := T.ex
  exact r_wget hg h1 h2 ha hs hx
theorem win_ {A : E} (n : Nat) (T : TpW Z X.K X.w X.mg P x n) (ha : RE Z W P X a A) (hg : Gl X x := by rfl) (hx : (x == ("__debug__" : Str)) = false := by decide) : RE Z W P X (.Compare a [.In] [.Name x p] pos) (.win false n A) := by
  obtain ⟨ad, h1, h2⟩ := T.ex
  exact r_win hg h1 h2 ha hx
theorem wnin_ {A : E} (n : Nat) (T : TpW Z X.K X.w X.mg P x n) (ha : RE Z W P X a A) (hg : Gl X x := by rfl) (hx : (x == ("__debug__" : Str)) = false := by decide) : RE Z W P X (.Compare a [.NotIn] [.Name x p] pos) (.win true n A) := by
  obtain ⟨ad, h1, h2⟩ := T.ex
  exact r_wnin hg h1 h2 ha hx
theorem gd_lam {A : Around} {outer : List PySem.Env} {s : Shared} {H : Hp} {E : XK} {scope : Scope} {f c' : Addr} (g : Gd Z X) (hr : Room k (A.deeper (lamEnv X scope s.heap.objs.size f c'))) : Gd Z (lamCx X A outer s H E scope f c') :=
  ⟨g.hK, rfl, by have := hr.un; show (A.deeper (lamEnv X scope s.heap.objs.size f c')).units + 100 < cLine; omega, g.nd⟩
theorem tk_lam {A : Around} {outer : List PySem.Env} {s : Shared} {H : Hp} {E : XK} {scope : Scope} {f c' : Addr} : Takes (lamCx X A outer s H E scope f c') (fun cls d _ H => E cls d H) := takes_of rfl rfl rfl rfl
/-- the table of the maker's code object -/
structure TpL (Z : Fix) (mg : Str → Option Value) (base : Heap) (cd : Value) (q : Str) : Prop where
  ex : ∃ cc PP, cd = .ref cc ∧ TabB base mg cc PP ∧ (PP, q ++ "<lambda>") ∈ Z.TT ∧ ∀ p ∈ Z.TT, p.1 = PP → p.2 = q ++ "<lambda>"
theorem told_ {c : Nat} {gave lit : List Nat} {f1 f2 : Str} {params : Arguments} {body : Expr} {scope : Scope} {lpos : Pos} {C : E} (g : Gd Z X) (j : Nat) (HD : HeardD Z X.K X.mg x c gave lit f1 f2) (hP : P.T j = heard c gave lit) (TL : TpL Z X.mg X.base X.env.code X.env.qual) (hr : Room (k + 2) X.A)
    (hbody : ∀ (A : Around) (outer : List PySem.Env) (s : Shared) (H : Hp) (E : XK) (f c' : Addr), Room k (A.deeper (lamEnv X scope s.heap.objs.size f c')) → RE Z (fun cls d _ H => E cls d H) P (lamCx X A outer s H E scope f c') body C)
    (L : lamSB X.env.scope scope = true := by first | rfl | decide +kernel) (hdef : defaultsOf params X.env = ([], []) := by rfl)
    (hbind : ∀ (q : Str) (cl : List (Str × Addr)) (pm cv ctv : Value), bindArgs (PySem.W.kla_fn "<lambda>" q params body scope cl pm cv ctv) ⟨[], []⟩ = pure [] := by intros; rfl)
    (hg : Gl X x := by rfl) (hdb : (x == ("__debug__" : Str)) = false := by decide) : RE Z W P X (.Call (.Name x p) [.Lambda params body scope lpos] [] pos) (.told j C) := by
  obtain ⟨cc, PP, e1, e2, e3, e4⟩ := TL.ex
  exact r_told g.hK HD hP e2 e1 e3 e4 hr hbody (lamS_by L) hdef hbind hg hdb
end
end DL
end
section
set_option Elab.async false
set_option linter.all false
set_option maxRecDepth 100000
set_option autoImplicit false
set_option maxHeartbeats 4000000
/-! DL34: what the top has written, by one Hook: defs, tables, own exceptions with an __init__ that calls super(). -/
namespace DL
open PySem PySem.Spec PyProof.Rows L2 LamX He

/-! ### own exceptions -/
def clsB (K : PySem.W.Frag) (C : Addr) : Bool := match K.lookup C with
  | some ⟨.type "type", _, .cls cd, sl⟩ => (match cd.mro, sl.toList with
    | .ref C' :: bm, [_, _, _, _, some (.builtin n), _] => C' == C && n == "ValueError.__new__" && !cd.hasDel && cd.hasDict && PySem.HandSPX.refsVE bm
    | _, _ => false)
  | _ => false
theorem clsB_ok {K : PySem.W.Frag} {C : Addr} (q : clsB K C = true) : ∃ nm q N bs bm sn sub ab col dd k0 k1 k2 k3 k5, K.lookup C = some (excClassObj nm q C N bs bm true sn sub ab col dd k0 k1 k2 k3 k5 "ValueError.__new__") ∧ PySem.HandSPX.refsVE bm = true := by
  unfold clsB at q
  split at q
  · rename_i dd cd sl ho
    split at q
    · rename_i C' bm k0 k1 k2 k3 n k5 hm hs
      simp only [Bool.and_eq_true, beq_iff_eq, Bool.not_eq_true'] at q
      obtain ⟨⟨⟨⟨rfl, rfl⟩, hdel⟩, hdc⟩, ht⟩ := q
      obtain ⟨nm, bs, mro, ns, qn, hd, sn, sub, ab, col, del⟩ := cd
      dsimp only at hm hdel hdc
      subst hm hdel hdc
      have hsl : sl = #[k0, k1, k2, k3, some (.builtin "ValueError.__new__"), k5] := by
        obtain ⟨l⟩ := sl
        simp only at hs
        rw [hs]
      subst hsl
      exact ⟨nm, qn, ns, bs, bm, sn, sub, ab, col, dd, k0, k1, k2, k3, k5, ho, ht⟩
    · cases q
  · cases q
/-- the exception x has the attribute names n1, n2 of its own -/
structure ExD where
  x : Str
  n1 : Str
  n2 : Str
/-- where __init__ stands -/
def ExD.f (K : PySem.W.Frag) (e : ExD) : Addr := ma K (ga K e.x) "__init__"
def iniB (prog : Program) (K : PySem.W.Frag) (C f : Addr) : Bool := match K.lookup f with
  | some ⟨_, _, .func fd, _⟩ => PySem.W.codeIn K fd.code fd.qualname && ((match fd.defaults with | .none => true | _ => false) && ((match fd.kwdefaults with | .none => true | _ => false) && ((match fd.code with
    | .ref c => (match K.lookup c with
      | some ⟨_, _, .fields vs, _⟩ => (match (vs[2]? : Option Value) with
        | some (.str file _) => (prog.main.file : Str) == file
        | _ => false)
      | _ => false)
    | _ => false) && (match fd.closure with
    | [(_, cc)] => (match K.lookup cc with
      | some ⟨_, _, .cell (some (.ref D)), _⟩ => D == C
      | _ => false)
    | _ => false))))
  | _ => false
def exB (prog : Program) (K : PySem.W.Frag) (e : ExD) : Bool :=
  clsB K (ga K e.x) && (PySem.W.excInitIn K (ga K e.x) [.type "ValueError", .type "Exception", .type "BaseException", .type "object"] "ValueError.__new__" &&
  (eqO (PySem.W.findIn K (.ref (ga K e.x)) "__setattr__") (some (some (.builtin "object.__setattr__"))) &&
  (eqO (PySem.W.findIn K (.ref (ga K e.x)) "__getattribute__") (some (some (.builtin "BaseException.__getattribute__"))) &&
  (eqO (PySem.W.findIn K (.ref (ga K e.x)) "__getattr__") (some none) &&
  (eqO (PySem.W.findIn K (.ref (ga K e.x)) e.n1) (some none) &&
  (eqO (PySem.W.findIn K (.ref (ga K e.x)) e.n2) (some none) &&
  (eqO (PySem.W.findIn K (.ref (ga K e.x)) "__init__") (some (some (.ref (e.f K)))) &&
  (eqO (PySem.W.ks_superIn K (ga K e.x) (ga K e.x) "__init__") (some (some (.builtin "ValueError.__init__"))) &&
  (decide (PySem.W.typeIn K (.ref (e.f K)) = some (.type "function")) &&
  (PySem.W.keepIn K (.ref (ga K e.x)) &&
  (decide (PySem.W.subIn K (.ref (ga K e.x)) (.type "BaseException") = some true) &&
  (decide (PySem.W.subIn K (.ref (ga K e.x)) (.type "ValueError") = some true) &&
  (decide (PySem.W.mroIn K (ga K e.x) (.ref (ga K e.x)) = some true) &&
  (decide (PySem.W.typeIn K (.ref (ga K e.x)) = some (.type "type")) &&
  (PySem.W.hasDictIn K (ga K e.x) &&
  (eqO (PySem.W.nsIn K cStatics "thirdparty.any") (some none) &&
  (eqO (PySem.W.nsIn K mainGlobals "super") (some none) &&
  (iniB prog K (ga K e.x) (e.f K) &&
  (!(prog.main.scope.names.lookup ("super" : Str)).isSome &&
  decide (PySem.W.exmOne K (.ref (ga K e.x)) (.ref (ga K e.x)) = some true))))))))))))))))))))
/-- the text of a def with cells -/
abbrev FnZ : Type := Option (Str × Arguments × FuncBody × Scope × Addr × List Str × Addr)
def fnZ (K : PySem.W.Frag) (f : Addr) : FnZ := match K.lookup f with
  | some ⟨_, _, .func fd, _⟩ => some (fd.name, fd.params, fd.body, fd.scope, fd.globals, fd.closure.map (·.1), fd.builtins)
  | _ => none
/-- the text of such an __init__ -/
def ExD.txt (e : ExD) (st : Stmt) : Prop := ∃ p0 p1 p2 q1 q2 q3 q4 q5 q6 q7 r1 r2 r3 r4 t1 t2 t3 t4 : Pos,
  (q3.endLine == q6.line) = true ∧ defArgs st = WAX.iA e.n1 e.n2 p0 p1 p2 ∧ defBody st = WAX.iB e.n1 e.n2 q1 q2 q3 q4 q5 q6 q7 r1 r2 r3 r4 t1 t2 t3 t4 ∧ defScope st = WAX.iS e.n1 e.n2
def ExD.val (st : Stmt) : FnZ := some ("__init__", defArgs st, .stmts (defBody st), defScope st, mainGlobals, ["__class__"], builtinsNs)
theorem exB_ok {prog : Program} {K : PySem.W.Frag} {h : Heap} {mg : Str → Option Value} {e : ExD} {st : Stmt} (X : K.In h) (G : h.Ns mainGlobals mg) (ht : e.txt st) (hv : fnZ K (e.f K) = ExD.val st) (hb : exB prog K e = true) :
    WAX.Txt e.n1 e.n2 prog K mg (ga K e.x) (e.f K) ∧ PySem.W.exmOne K (.ref (ga K e.x)) (.ref (ga K e.x)) = some true := by
  unfold exB at hb
  obtain ⟨b1, hb⟩ := ba hb
  obtain ⟨b2, hb⟩ := ba hb
  obtain ⟨b3, hb⟩ := ba hb
  obtain ⟨b4, hb⟩ := ba hb
  obtain ⟨b5, hb⟩ := ba hb
  obtain ⟨b6, hb⟩ := ba hb
  obtain ⟨b7, hb⟩ := ba hb
  obtain ⟨b8, hb⟩ := ba hb
  obtain ⟨b9, hb⟩ := ba hb
  obtain ⟨b10, hb⟩ := ba hb
  obtain ⟨b11, hb⟩ := ba hb
  obtain ⟨b12, hb⟩ := ba hb
  obtain ⟨b13, hb⟩ := ba hb
  obtain ⟨b14, hb⟩ := ba hb
  obtain ⟨b15, hb⟩ := ba hb
  obtain ⟨b16, hb⟩ := ba hb
  obtain ⟨b17, hb⟩ := ba hb
  obtain ⟨b18, hb⟩ := ba hb
  obtain ⟨b19, hb⟩ := ba hb
  obtain ⟨b20, b21⟩ := ba hb
  refine ⟨⟨clsB_ok b1, b2, eqO_ok b3, eqO_ok b4, eqO_ok b5, eqO_ok b6, eqO_ok b7, eqO_ok b8, eqO_ok b9, of_decide_eq_true b10, b11, of_decide_eq_true b12, of_decide_eq_true b13, of_decide_eq_true b14, of_decide_eq_true b15, b16, eqO_ok b17, PySem.W.mg_none_of X G (eqO_ok b18), ?_, by simpa using b20⟩, of_decide_eq_true b21⟩
  obtain ⟨p0, p1, p2, q1, q2, q3, q4, q5, q6, q7, r1, r2, r3, r4, t1, t2, t3, t4, hl, e1, e2, e3⟩ := ht
  unfold fnZ at hv
  unfold iniB at b19
  split at b19
  · rename_i oc od fd osl ho
    rw [ho] at hv
    obtain ⟨n1, n2, n3, n4, n5, n6, n7, n8, n9, n10, n11, n12, n13, n14, n15⟩ := fd
    dsimp only at b19 hv
    obtain ⟨c1, b19a⟩ := ba b19
    obtain ⟨c2, b19b⟩ := ba b19a
    obtain ⟨c3, b19c⟩ := ba b19b
    obtain ⟨c4, c5⟩ := ba b19c
    clear b19 b19a b19b b19c
    split at c4
    · rename_i c
      split at c4
      · rename_i ccl cdd vs ccs hc
        split at c4
        · rename_i file tf hfile
          split at c5
          · rename_i nm cc
            split at c5
            · rename_i cl cld D csl hcc
              have hD : D = ga K e.x := by simpa using c5
              subst hD
              have d8 : n8 = .none := by cases n8 <;> first | rfl | cases c2
              have d9 : n9 = .none := by cases n9 <;> first | rfl | cases c3
              subst d8 d9
              unfold ExD.val at hv
              simp only [Option.some.injEq, Prod.mk.injEq, List.map_cons, List.map_nil, List.cons.injEq, and_true] at hv
              obtain ⟨h1, h3, h4, h5, h6, h7, h8⟩ := hv
              subst h1 h3 h4 h5 h6 h7 h8
              refine ⟨oc, od, n2, n10, n11, n12, c, n14, osl, cc, p0, p1, p2, q1, q2, q3, q4, q5, q6, q7, r1, r2, r3, r4, t1, t2, t3, t4, hl, ?_, c1, ⟨ccl, cdd, vs, ccs, file, tf, hc, hfile, c4⟩, cl, cld, csl, hcc⟩
              rw [ho, ← e1, ← e2, ← e3]
            · cases c5
          · cases c5
        · cases c4
      · cases c4
    · cases c4
  · cases b19
/-! ### the Hook -/
def asW (g : Addr → Option Obj) (n : Nat) : List Addr := asD g n ++ [cStatics]
def frW (n : Nat) (g : Addr → Option Obj) : PySem.W.Frag := frT g (asW g n)
structure HkD where
  fa : List Fa
  fn : List DefD
  ts : List Tab
  tf : List Defn
  ex : PySem.W.Frag → Bool
  xs : List (ExD × Stmt)
abbrev AlW : Type := AlX × List FnZ
def HkD.obs (n : Nat) (d : HkD) (g : Addr → Option Obj) : AlW := ((obsT d.fa d.fn d.ts (frW n g), d.ex (frW n g) && tabsB g d.tf (frW n g)), d.xs.map fun q => fnZ (frW n g) (q.1.f (frW n g)))
def HkD.val (d : HkD) (w : World) : AlW := (valX d.fn d.ts w, d.xs.map fun q => ExD.val q.2)
structure HkD.Says (d : HkD) (w : World) (h : Heap) (K : PySem.W.Frag) : Prop where
  x : SaysX d.fa d.fn d.ts d.tf d.ex w h K
  z : (d.xs.map fun q => fnZ K (q.1.f K)) = d.xs.map fun q => ExD.val q.2
theorem HkD.says_of {n : Nat} {d : HkD} {w : World} {h : Heap} (e0 : d.obs n h.get? = d.val w) : d.Says w h (frW n h.get?) := by
  have e : ((obsT d.fa d.fn d.ts (frW n h.get?), d.ex (frW n h.get?) && tabsB h.get? d.tf (frW n h.get?)) : AlX) = valX d.fn d.ts w := congrArg (fun z : AlW => z.1) e0
  have e1 : obsT d.fa d.fn d.ts (frW n h.get?) = valT d.fn d.ts w := congrArg (fun z : AlX => z.1) e
  have e2 : (d.ex (frW n h.get?) && tabsB h.get? d.tf (frW n h.get?)) = true := congrArg (fun z : AlX => z.2) e
  obtain ⟨h1, h2⟩ := ba e2
  have key : ∀ p ∈ d.tf, PySem.W.codeHdIn (frW n h.get?) (cT (frW n h.get?) p).1 (cT (frW n h.get?) p).2 = true ∧ ∃ o, h.get? (cT (frW n h.get?) p).2 = some o ∧ emptyTab o = true := fun p hp => by
    obtain ⟨h3, h4⟩ := ba (List.all_eq_true.mp h2 p hp)
    refine ⟨h3, ?_⟩
    cases q : h.get? (cT (frW n h.get?) p).2 with
    | none =>
      rw [q] at h4
      cases h4
    | some o =>
      rw [q] at h4
      exact ⟨o, rfl, h4⟩
  exact ⟨⟨e1, h1, fun p hp => (key p hp).1, fun p hp => by
    obtain ⟨_, o, q, z⟩ := key p hp
    exact frT_none q z, fun p hp => by
    obtain ⟨_, o, q, z⟩ := key p hp
    rw [q, emptyTab_eq z]⟩, congrArg (fun z : AlW => z.2) e0⟩
def HkD.hook (n : Nat) (d : HkD) : PySem.W.Hook where
  α := AlW
  obs := fun s => d.obs n s.heap.get?
  val := fun w => d.val w
  says := fun w h => ∃ K : PySem.W.Frag, K.In h ∧ d.Says w h K
  of := fun _ _ e => ⟨_, frT_in, HkD.says_of e⟩
  keeps := fun _ _ _ ⟨K, hK, c⟩ k => ⟨K, PySem.W.Frag.In.keeps hK k, ⟨⟨c.x.t, c.x.more, c.x.hd, c.x.out, fun p hp => k _ _ (c.x.empty p hp)⟩, c.z⟩⟩
theorem HkD.obs_eq {n : Nat} {d : HkD} {g : Addr → Option Obj} {s : Shared} (h : ∀ a, g a = s.heap.get? a) : d.obs n g = (d.hook n).obs s := by
  have e : g = s.heap.get? := funext h
  rw [e] <;> rfl
theorem HkD.Says.exc {d : HkD} {w : World} {h : Heap} {K : PySem.W.Frag} (c : d.Says w h K) (i : Nat) {q : ExD × Stmt} (hi : d.xs[i]? = some q := by rfl) : fnZ K (q.1.f K) = ExD.val q.2 := by
  have e2 : (d.xs.map fun q => fnZ K (q.1.f K))[i]? = (d.xs.map fun q => ExD.val q.2)[i]? := by rw [c.z]
  rw [List.getElem?_map, List.getElem?_map, hi] at e2
  exact Option.some.inj e2
theorem HkD.Says.def_ {d : HkD} {w : World} {h : Heap} {K : PySem.W.Frag} (c : d.Says w h K) (i : Nat) {q : DefD} (hi : d.fn[i]? = some q := by rfl) : ∃ fd, FunD K q.name q.qual q.params q.body q.scope (q.dvs K) (q.kws K) (fAd K q.at_) fd := c.x.t.d.def_ i hi
theorem HkD.Says.fact {d : HkD} {w : World} {h : Heap} {K : PySem.W.Frag} (c : d.Says w h K) (i : Nat) {q : Fa} (hi : d.fa[i]? = some q := by rfl) : q.ok K = true := c.x.t.d.fact i hi
end DL
end
section
set_option Elab.async false
set_option linter.all false
set_option maxRecDepth 100000
set_option autoImplicit false
set_option maxHeartbeats 4000000
/-! DL35: a law's table of defs by levels; its facts from the Hook; its end. -/
namespace DL
open PySem PySem.Spec PyProof.Rows L2 LamX He

/-! ### the table -/
/-- bs: mode, slots, body; gs: constants; ws: written dicts; hs: the defs that call what they get: (which, the exception's class, the words) -/
structure Bk where
  bs : List (Nat × Nat × Ss)
  gs : List D
  ws : List (List (List Nat × D))
  hs : List (Nat × Nat × List Nat × List Nat)
def Bk.W (B : Bk) (n : Nat) : List (List Nat × D) := (B.ws[n]?).getD []
def Bk.T (B : Bk) (j : Nat) (th : Store → R D) : Store → R D := match B.hs.find? (fun q => q.1 == j) with
  | some (_, c, gave, lit) => heard c gave lit th
  | none => fun _ => .no
/-- one step of calls -/
noncomputable def Bk.S (B : Bk) (u : Under) (F : Fns) (i : Nat) (ds : List D) (M : Store) : R D := match B.bs[i]? with
  | some (md, N, b) => runF F u md N b ds M
  | none => .no
noncomputable def Bk.Pn (B : Bk) (u : Under) : Nat → Fns
  | 0 => ⟨fun _ _ _ => .no, B.T, fun i => B.gs[i]?, B.W, fun _ => .no⟩
  | n + 1 => ⟨B.S u (B.Pn u n), B.T, fun i => B.gs[i]?, B.W, fun _ => .no⟩
theorem Bk.S_eq {B : Bk} {u : Under} {n i md N : Nat} {b : Ss} (h : B.bs[i]? = some (md, N, b)) : (B.Pn u (n + 1)).S i = runF (B.Pn u n) u md N b := by
  show B.S u (B.Pn u n) i = _
  funext ds M
  unfold Bk.S
  rw [h]
theorem Bk.G_eq (B : Bk) (u : Under) (n i : Nat) : (B.Pn u n).G i = B.gs[i]? := by cases n <;> rfl
theorem Bk.W_eq (B : Bk) (u : Under) (n : Nat) : (B.Pn u n).Wd = B.W := by cases n <;> rfl
theorem Bk.T_eq (B : Bk) (u : Under) (n : Nat) : (B.Pn u n).T = B.T := by cases n <;> rfl
theorem Bk.T_of {B : Bk} {u : Under} {n j c : Nat} {gave lit : List Nat} (h : B.hs.find? (fun q => q.1 == j) = some (j, c, gave, lit)) : (B.Pn u n).T j = heard c gave lit := by
  rw [B.T_eq]
  funext th
  unfold Bk.T
  rw [h]
section
variable {Z : Fix} {P : Program} {w : World} {K : PySem.W.Frag} {mg : Str → Option Value} {base : Heap} {B : Bk} {u : Under} {k n i md : Nat} {x qual : Str} {params : Arguments} {body : List Stmt} {scope : Scope} {dvs : List V} {kws : List (Str × V)} {f : Addr} {fd : FuncData} {N ps : List Str} {b : Ss}
theorem lvl0 {CX : CXT} : FnOk P w K mg base CX k f fd ps (spD Z ps.length ((B.Pn u 0).S i)) :=
  ⟨fun vs H Q E h => h.1, fun A outer s H args us vs Q E _ _ _ _ h => by
    obtain ⟨_, φ, M, ds, _, _, q⟩ := h
    exact q.elim⟩
theorem Bk.S_no {n : Nat} {ds : List D} {M : Store} (h : B.bs[i]? = some (0, 0, .cons .brk .nil)) : (B.Pn u (n + 1)).S i ds M = .no := by
  rw [Bk.S_eq h]
  unfold runF settle
  rw [if_pos rfl, execs, exec]
  rfl
theorem lvlN {CX : CXT} (h : B.bs[i]? = some (0, 0, .cons .brk .nil)) : FnOk P w K mg base CX k f fd ps (spD Z ps.length ((B.Pn u (n + 1)).S i)) :=
  ⟨fun vs H Q E h => h.1, fun A outer s H args us vs Q E _ _ _ _ hs => by
    obtain ⟨_, φ, M, ds, _, _, q⟩ := hs
    rw [Bk.S_no h] at q
    exact q.elim⟩
/-- as fn_lvl, at the def's own code -/
theorem fn_lvlC {Pf : Fns} (F : FunD K x qual params body scope dvs kws f fd) (S : FnScope N ps scope)
    (hb : ∀ (A : Around) (outer : List PySem.Env) (s : Shared) (H : Hp) (E : XK), Room k (A.deeper (envOfC qual scope s.heap.objs.size f fd.code)) →
      RSs Z (fun cls d _ H => E cls d H) Pf u (cxOf (L2.CX P w) P w K mg base N qual scope f fd.code A outer s H E) body b) :
    FnOk P w K mg base (L2.CX P w) (k + 1) f fd ps (spD Z ps.length (runF Pf u md N.length b)) := by
  obtain ⟨oc, od, dV, kV, doc, pm, an, cdv, ct, osl, rfl, lk, hcd, _, _⟩ := F.ex
  refine fn_of lk hcd S (fun vs H Q E h => h.1) fun A outer s H vs Q E hr h => ?_
  obtain ⟨hl, φ, M, ds, m, i, q⟩ := h
  exact ⟨_, hb A outer s H E hr, φ, startE N.length ds, M, ⟨m, repE_start i⟩, body_post (settle_ok (σ := []) m q)⟩
/-- one def, one level up -/
theorem lvlS (F : FunD K x qual params body scope dvs kws f fd) (S : FnScope N ps scope) (hB : B.bs[i]? = some (md, N.length, b))
    (hb : ∀ (A : Around) (outer : List PySem.Env) (s : Shared) (H : Hp) (E : XK), Room (3 * n + 2) (A.deeper (envOfC qual scope s.heap.objs.size f fd.code)) →
      RSs Z (fun cls d _ H => E cls d H) (B.Pn u n) u (cxOf (L2.CX P w) P w K mg base N qual scope f fd.code A outer s H E) body b) :
    FnOk P w K mg base (L2.CX P w) (3 * (n + 1)) f fd ps (spD Z ps.length ((B.Pn u (n + 1)).S i)) := by
  rw [Bk.S_eq hB]
  exact fn_lvlC F S hb
end
/-! ### keyword-only parameters -/
section
variable {Z : Fix} {P : Program} {w : World} {K : PySem.W.Frag} {mg : Str → Option Value} {base : Heap} {x qual : Str} {params : Arguments} {body : List Stmt} {scope : Scope} {kws : List (Str × V)} {f : Addr} {fd : FuncData} {ps ks : List Str}
theorem FunD.kbn (F : FunD K x qual params body scope [] kws f fd) (n : Nat)
    (h : ∀ (kV doc pm : Value) (an : Option Addr) (cdv ct : Value) (us ws : List Value), us.length = n → ws.length = ks.length → bindArgs (PySem.W.fnOf x qual params body scope .none kV doc pm an cdv ct) ⟨us, ks.zip ws⟩ = pure (ps.zip (us ++ ws))) :
    KBn K fd ps n ks (fun us ws => us ++ ws) (fun vs zs => vs ++ zs) := by
  obtain ⟨oc, od, dV, kV, doc, pm, an, cdv, ct, osl, rfl, lk, hcd, hD, hK⟩ := F.ex
  rcases hD with ⟨_, rfl⟩ | ⟨e, _⟩
  · exact ⟨fun s us ws _ l1 l2 => .of_eq (h kV doc pm an cdv ct us ws l1 l2), fun r1 r2 => r1.append r2⟩
  · exact absurd rfl e
end
/-! ### tables of texts -/
theorem tab_no {K : PySem.W.Frag} {w : World} {a : Addr} {ks : List Str} (h : dicW K a = some (keysIn w.params ks)) {x : Str} (hx : x ∉ ks) : PySem.W.nsIn K a x = some none := by
  unfold dicW at h
  split at h
  · rename_i es n sl hl
    split at h
    · have h1 := Option.some.inj h
      have key : ∀ (l : List DictEntry) (ks : List Str), l.map He.keyOf = keysIn w.params ks → x ∉ ks → l.find? (·.key.isStr x) = none ∧ l.any (·.refKey) = false := by
        intro l
        induction l with
        | nil => intro _ _ _; exact ⟨rfl, rfl⟩
        | cons e r ih =>
          intro ks hk hn
          cases ks with
          | nil => cases hk
          | cons k ks =>
            have hk : He.keyOf e :: r.map He.keyOf = some (k, PyData.keyHash w.params k) :: keysIn w.params ks := hk
            injection hk with h2 h3
            obtain ⟨i1, i2⟩ := ih ks h3 (fun z => hn (List.mem_cons_of_mem _ z))
            unfold He.keyOf at h2
            split at h2
            · rename_i y t q
              obtain ⟨h5, h6⟩ := Prod.mk.inj (Option.some.inj h2)
              have ny : y ≠ x := fun z => hn (by rw [← z, h5]; exact List.mem_cons_self)
              refine ⟨?_, ?_⟩
              · rw [List.find?_cons, q]
                have e1 : Value.isStr (.str y t) x = false := by
                  show (y == x) = false
                  simpa using ny
                rw [e1]
                exact i1
              · rw [List.any_cons, i2]
                have e1 : e.refKey = false := by
                  unfold DictEntry.refKey
                  rw [q]
                rw [e1]
                rfl
            · cases h2
      obtain ⟨k1, k2⟩ := key es.toList ks h1 hx
      unfold PySem.W.nsIn
      rw [hl]
      simp only [k1, k2]
      rfl
    · cases h
  · cases h
end DL
end
section
set_option Elab.async false
set_option linter.all false
set_option maxRecDepth 100000
set_option autoImplicit false
set_option maxHeartbeats 4000000
/-! DL36: constants, written dicts, exceptions, defs that call a lambda, tables of code objects: from the Hook; the law's end. -/
namespace DL
open PySem PySem.Spec PyProof.Rows L2 LamX He

/-! ### constants -/
def dvD : D → Dv
  | .str y => .str (cs y)
  | .int i => .int i
  | .bl b => .bl b
  | _ => .non
def okC : D → Bool
  | .str y => y.all (fun c => decide (c < 1114112))
  | .int _ => true
  | .bl _ => true
  | .non => true
  | _ => false
section
variable {Z : Fix} {K : PySem.W.Frag} {w : World} {h : Heap} {mg : Str → Option Value} {x : Str}
theorem is_dv {d : D} (hd : okC d = true) (φ : Ph) (G : Hp) : Is Z φ G d ((dvD d).v K) := by
  cases d with
  | str y => rw [Is]; exact ⟨rfl, hd⟩
  | int i => rw [Is]; rfl
  | bl b => rw [Is]; rfl
  | non => rw [Is]; rfl
  | _ => cases hd
theorem iss_dv (φ : Ph) (G : Hp) : ∀ {ds : List D}, ds.all okC = true → Iss Z φ G ds (ds.map fun d => (dvD d).v K)
  | [], _ => by rw [Iss]; rfl
  | d :: ds, hd => by
    obtain ⟨h1, h2⟩ := ba (show (okC d && ds.all okC) = true from hd)
    rw [Iss]
    exact ⟨_, _, rfl, is_dv h1 φ G, iss_dv φ G h2⟩
theorem gs_str (X : K.In h) (G : h.Ns mainGlobals mg) {y : List Nat} (c : (Fa.str x (cs y)).ok K = true) (hy : okC (.str y) = true) : ∃ v u, mg x = some u ∧ RelV v u ∧ ∀ φ G, Is Z φ G (.str y) v := by
  obtain ⟨t, e⟩ := str_ok X G c
  exact ⟨.str (cs y), _, e, ⟨t, rfl⟩, fun φ G => by rw [Is]; exact ⟨rfl, hy⟩⟩
theorem gs_int (X : K.In h) (G : h.Ns mainGlobals mg) {i : Int} (c : (Fa.int x i).ok K = true) : ∃ v u, mg x = some u ∧ RelV v u ∧ ∀ φ G, Is Z φ G (.int i) v := by
  obtain ⟨t, e⟩ := int_ok X G c
  exact ⟨.int i, _, e, ⟨t, rfl⟩, fun φ G => by rw [Is]⟩
/-- a tuple of constants -/
def tupD (K : PySem.W.Frag) (x : Str) (ds : List D) : Bool := match K.lookup (ga K x) with
  | some ⟨.type c, none, .seq its _, _⟩ => decide (c = "tuple") && (decide (its.size ≤ sizeLine) && relAll (ds.map fun d => (dvD d).v K) its.toList)
  | _ => false
theorem gs_tup (hK : K = Z.K) (X : K.In h) (G : h.Ns mainGlobals mg) {ds : List D} (c : (Fa.glo x).ok K = true) (ht : tupD K x ds = true) (hd : ds.all okC = true) : ∃ v u, mg x = some u ∧ RelV v u ∧ ∀ φ G, Is Z φ G (.tup ds) v := by
  refine ⟨.ref (ga K x), _, glo_ok X G c, rfl, fun φ G => ?_⟩
  rw [Is]
  refine ⟨_, _, rfl, .inr ?_, iss_dv (K := K) φ G hd⟩
  rw [← hK]
  unfold tupD at ht
  split at ht
  · rename_i c its n sl hl
    obtain ⟨h1, h2⟩ := ba ht
    obtain ⟨h3, h4⟩ := ba h2
    exact ⟨_, its, n, hl, congrArg Value.type (of_decide_eq_true h1), rfl, rfl, of_decide_eq_true h3, relAll_ok h4⟩
  · cases ht
/-! ### written dicts -/
theorem lookup_mem' {α β : Type} [BEq α] [LawfulBEq α] {k : α} {v : β} : ∀ {l : List (α × β)}, l.lookup k = some v → (k, v) ∈ l
  | [], h => by cases h
  | (a, b) :: l, h => by
    rw [List.lookup_cons] at h
    split at h
    · rename_i e
      cases h
      rw [eq_of_beq e]
      exact List.mem_cons_self
    · exact List.mem_cons_of_mem _ (lookup_mem' h)
theorem lookup_none' {α β : Type} [BEq α] [LawfulBEq α] {k : α} : ∀ {l : List (α × β)}, l.lookup k = none → k ∉ l.map (·.1)
  | [], _ => fun z => by cases z
  | (a, b) :: l, h => by
    rw [List.lookup_cons] at h
    split at h
    · cases h
    · rename_i e
      intro z
      rcases List.mem_cons.mp z with z | z
      · rw [z] at e
        simp at e
      · exact lookup_none' h z
theorem cs_inj {a b : List Nat} (h : cs a = cs b) : a = b := by
  have h1 : a.toArray = b.toArray := congrArg Str.cps h
  simpa using h1
def keysD (wl : List (List Nat × D)) : List Str := wl.map fun q => cs q.1
def valsD (wl : List (List Nat × D)) : List (Str × Dv) := wl.map fun q => (cs q.1, dvD q.2)
theorem tpw_of {Pf : Fns} {n : Nat} {wl : List (List Nat × D)} (X : K.In h) (G : h.Ns mainGlobals mg) (c : (Fa.glo x).ok K = true) (ht : dicW K (ga K x) = some (keysIn w.params (keysD wl))) (hv : valsB K (ga K x) (valsD wl) = true)
    (ho : (wl.all fun q => okC q.2) = true) (hP : Pf.Wd n = wl) : TpW Z K w mg Pf x n := by
  refine ⟨_, glo_ok X G c, ⟨dicW_ok ht, fun s d e => ?_, fun s e => ?_⟩⟩
  · rw [hP] at e
    have m := lookup_mem' e
    obtain ⟨u, h1, h2⟩ := valsB_ok hv (q := (cs s, dvD d)) (List.mem_map.mpr ⟨_, m, rfl⟩)
    exact ⟨u, _, h1, h2, fun φ G => is_dv (List.all_eq_true.mp ho _ m) φ G⟩
  · rw [hP] at e
    refine tab_no ht fun z => ?_
    obtain ⟨q, hq, e1⟩ := List.mem_map.mp z
    exact lookup_none' e (List.mem_map.mpr ⟨q, hq, cs_inj e1⟩)
theorem says_tab {d : HkD} (c : d.Says w h K) (i : Nat) {t : Tab} (hi : d.ts[i]? = some t := by rfl) : dicW K (t.1 K) = some (keysIn w.params t.2) := by
  have e : d.ts.map (fun t => dicW K (t.1 K)) = d.ts.map fun t => some (keysIn w.params t.2) := congrArg (fun z : AlT => z.2) c.x.t
  have e2 : (d.ts.map fun t => dicW K (t.1 K))[i]? = (d.ts.map fun t => some (keysIn w.params t.2))[i]? := by rw [e]
  rw [List.getElem?_map, List.getElem?_map, hi] at e2
  exact Option.some.inj e2
/-! ### exceptions -/
theorem tpx_of {P : Program} {e : ExD} {st : Stmt} {c : Nat} (NM : WAX.Nm e.n1 e.n2) (X : K.In h) (G : h.Ns mainGlobals mg) (ht : e.txt st) (hv : fnZ K (e.f K) = ExD.val st) (hb : exB P K e = true) (hg : (Fa.glo e.x).ok K = true) (hc : Z.ca c = ga K e.x) (hf : Z.cf c = [e.n1, e.n2]) : TpX Z P K mg e.x c e.n1 e.n2 :=
  ⟨NM, ⟨_, by rw [hc]; exact (exB_ok X G ht hv hb).1⟩, hf, by rw [hc]; exact glo_ok X G hg⟩
/-! ### a def that calls what it gets -/
theorem heardD_of {P : Program} {ex : ExD} {st : Stmt} {c : Nat} {fd : FuncData} {a en : Str} {gv lt : List Nat} {pg : Arguments} {bg : List Stmt} {sg : Scope} {g : Addr} {j j2 k k2 : Nat} {p0 p1 p2 p3 p4 p5 p6 p7 p8 p9 p10 p11 p12 p13 p14 : Pos}
    (X : K.In h) (G : h.Ns mainGlobals mg) (ht : ex.txt st) (hv : fnZ K (ex.f K) = ExD.val st) (hb : exB P K ex = true) (hg : (Fa.glo ex.x).ok K = true) (hc : Z.ca c = ga K ex.x) (hf : Z.cf c = [ex.n1, ex.n2])
    (F : FunD K x x pg bg sg [] [] g fd) (hx : mg x = some (.ref g)) (hB : L2.Binds K fd [a] []) (Sg : FnScope [a, en] [a] sg)
    (hbody : bg = [.Try [.Return (some (.Tuple [.Constant (.str (cs gv)) j p0, .Call (.Name a p1) [] [] p2] k p9)) p3]
      [.ExceptHandler (some (.Name ex.x p4)) (some en) [.Return (some (.Tuple [.Constant (.str (cs lt)) j2 p5, .Attribute (.Name en p10) ex.n1 p11, .Attribute (.Name en p12) ex.n2 p13] k2 p14)) p6] p7] [] [] p8])
    (hge : sg.names.lookup ex.x = some .globalImplicit) (hla : sg.names.lookup a = some .local) (hln : sg.names.lookup en = some .local) (hne : ex.n1 ≠ ex.n2) (ok1 : okC (.str gv) = true) (ok2 : okC (.str lt) = true)
    (hde : (ex.x == ("__debug__" : Str)) = false) (hdn : (en == ("__debug__" : Str)) = false) (hcn : (en == ("__classdict__" : Str)) = false) (hda : (a == ("__debug__" : Str)) = false) (hca : (a == ("__classdict__" : Str)) = false)
    (hb1 : ∀ env : PySem.Env, attributeBase (.Name en p10) ex.n1 env (eval (.Name en p10) env) = eval (.Name en p10) env)
    (hb2 : ∀ env : PySem.Env, attributeBase (.Name en p12) ex.n2 env (eval (.Name en p12) env) = eval (.Name en p12) env) : HeardD Z K mg x c gv lt ex.n1 ex.n2 := by
  obtain ⟨T, hexm⟩ := exB_ok X G ht hv hb
  have kp := F.kp
  obtain ⟨oc, od, dV, kV, doc, pm, an, cdv, ct, osl, rfl, lk, hcd, _, _⟩ := F.ex
  refine ⟨⟨g, a, [a, en], pg, bg, sg, dV, kV, doc, pm, cdv, ct, oc, an, od, osl, hx, kp, lk, hcd, hB, Sg, rfl, .inl hla, hda, hca, fun X' hK hm q => ?_⟩, hf, hne, ok1, ok2⟩
  rw [hbody]
  have hme : X'.mg ex.x = some (.ref (Z.ca c)) := by rw [hm, hc]; exact glo_ok X G hg
  refine heard_gives (X := X') hge hme ?_ ?_ ?_ ?_ Sg.nd rfl rfl hln hde hdn hcn hb1 hb2
  · rw [hK, hc]
    exact ⟨T.ga, T.gg, T.exC, T.hdC⟩
  · rw [hK, hc]
    exact T.no1
  · rw [hK, hc]
    exact T.no2
  · rw [hK, hc]
    exact hexm
/-! ### tables of code objects -/
def ttOf (K : PySem.W.Frag) (tf : List Defn) : List (Addr × Str) := tf.map fun p => ((cT K p).2, p.1 ++ ".<locals>." ++ "<lambda>")
def ndT (K : PySem.W.Frag) (tf : List Defn) : Bool := decide ((tf.map fun p => (cT K p).2).Nodup)
theorem tpl_of {base : Heap} {tf : List Defn} {p : Defn} {fd : FuncData} {qual : Str} {params : Arguments} {body : List Stmt} {scope : Scope} {dvs : List V} {kws : List (Str × V)} (nd : ndT K tf = true) (hp : p ∈ tf) (hT : ∀ p ∈ tf, TabB base mg (cT K p).1 (cT K p).2)
    (F : FunD K x qual params body scope dvs kws (fAd K p) fd) (hTT : Z.TT = ttOf K tf) : TpL Z mg base fd.code (p.1 ++ ".<locals>.") := by
  obtain ⟨oc, od, dV, kV, doc, pm, an, cdv, ct, osl, rfl, lk, hcd, _, _⟩ := F.ex
  obtain ⟨c, rfl⟩ := codeIn_ref hcd
  have e : codeOf K p = c := codeOf_eq lk rfl
  have tb := hT p hp
  have e1 : (cT K p).1 = c := e
  rw [e1] at tb
  refine ⟨c, (cT K p).2, rfl, tb, ?_, fun q hq e2 => ?_⟩
  · rw [hTT]
    exact List.mem_map.mpr ⟨p, hp, rfl⟩
  · rw [hTT] at hq
    obtain ⟨p', hp', rfl⟩ := List.mem_map.mp hq
    have nd := of_decide_eq_true nd
    have key : ∀ {l : List Defn} {a b : Defn}, (l.map fun p => (cT K p).2).Nodup → a ∈ l → b ∈ l → (cT K a).2 = (cT K b).2 → a = b := by
      intro l
      induction l with
      | nil => intro a b _ h; cases h
      | cons d l ih =>
        intro a b hn ha hb hab
        rw [List.map_cons, List.nodup_cons] at hn
        rcases List.mem_cons.mp ha with ha1 | ha1 <;> rcases List.mem_cons.mp hb with hb1 | hb1
        · rw [ha1, hb1]
        · subst ha1
          exact (hn.1 (List.mem_map.mpr ⟨b, hb1, hab.symm⟩)).elim
        · subst hb1
          exact (hn.1 (List.mem_map.mpr ⟨a, ha1, hab⟩)).elim
        · exact ih hn.2 ha1 hb1 hab
    have := key nd hp' hp e2
    subst this
    rfl
/-! ### the law's end -/
theorem lawAt {l : PySem.W.OpenLaw} {d : HkD} {k n : Nat} {fa : Addr} {fd : FuncData} {S : List D → Store → R D} (c : d.Says w h K) (X : K.In h) (hTT : Z.TT = ttOf K d.tf) (hZK : Z.K = K)
    (hb : ∀ (s : Shared) (v : Value), BindsTo s fd ⟨[v], []⟩ [(x, v)])
    (lv : ∀ base : Heap, K.In base → base.Ns mainGlobals mg → (∀ p ∈ d.tf, TabB base mg (cT K p).1 (cT K p).2) → FnOk l.prog w K mg base (L2.CX l.prog w) k fa fd [x] (spD Z 1 S))
    (plain : ∀ ns : List Int, ns.length ≤ n → (∀ z ∈ ns, Builtin.Int.intBits z ≤ 1048576) → ∃ M', S [.scr ns] [] = .ok (.bl true) M') : LawAtS l w K (L2.CX l.prog w) k n x mg fa h := by
  refine ⟨fd, d.tf.map (cT K), spD Z 1 S, fun q hq => ?_, fun q hq => ?_, fun q hq => ?_, hb, fun H a ns hl hbits hH hS => ?_, fun base h1 h2 h3 => lv base h1 h2 fun p hp => h3 _ (List.mem_map.mpr ⟨p, hp, rfl⟩)⟩
  · obtain ⟨p, hp, rfl⟩ := List.mem_map.mp hq
    exact c.x.empty p hp
  · obtain ⟨p, hp, rfl⟩ := List.mem_map.mp hq
    exact c.x.out p hp
  · obtain ⟨p, hp, rfl⟩ := List.mem_map.mp hq
    exact PySem.W.codeHd_of_K X (c.x.hd p hp)
  · have eo : out ⟨[], []⟩ H = H := by
      funext b
      unfold out
      exact if_neg (by intro z; cases z)
    refine ⟨rfl, ⟨[], []⟩, [], [.scr ns], ⟨rfl, List.nodup_nil, fun a (z : a ∈ ([] : List Addr)) => (by cases z), fun i o (e : ([] : Store)[i]? = some o) => (by simp at e), ?_⟩, ?_, ?_⟩
    · rw [eo]
      intro p hp
      rw [hTT] at hp
      obtain ⟨q, hq, rfl⟩ := List.mem_map.mp hp
      exact TabS.nil (hH _ (List.mem_map.mpr ⟨q, hq, rfl⟩))
    · rw [eo, Iss]
      refine ⟨_, _, rfl, ?_, by rw [Iss]⟩
      rw [Is]
      exact ⟨a, rfl, by rw [hZK]; exact hS⟩
    · obtain ⟨M', e⟩ := plain ns hl hbits
      rw [e]
      intro φ' v H' _ i
      rw [Is] at i
      exact i
end
end DL
end
section
set_option Elab.async false
set_option linter.all false
set_option maxRecDepth 100000
set_option autoImplicit false
/-! KB: bodies of defs as terms of the small language, printed by gen2.py. f_: the places of the defs that are called, g_: of constants, w_: of written dicts, x_: of exceptions. -/
namespace KB
open DL
def b_is_integer : Ss := (.cons (.ret (.and (.o1 (.isT "int") (.v 0)) (.not (.o1 (.isT "bool") (.v 0)))))
    .nil)
def b_is_number (f_is_integer : Nat) : Ss := (.cons (.ret (.and (.call f_is_integer (idPm 1) (.cons (.v 0) .nil) .nil) (.o2 .ge (.v 0) (.c (.int 0)))))
    .nil)
def b_is_text (g_LETTERS : Nat) : Ss := (.cons (.ret (.and (.o1 (.isT "str") (.v 0)) (.o1 .all (.lc false [1] (.nm 1) (.seq (.v 0)) .nil (.o2 .isin (.v 1) (.g g_LETTERS))))))
    .nil)
def b_is_letter (f_is_text : Nat) : Ss := (.cons (.ret (.and (.call f_is_text (idPm 1) (.cons (.v 0) .nil) .nil) (.o2 .eq (.o1 .len (.v 0)) (.c (.int 1)))))
    .nil)
def b_is_piece (f_is_text : Nat) : Ss := (.cons (.ret (.and (.call f_is_text (idPm 1) (.cons (.v 0) .nil) .nil) (.o2 .ne (.v 0) (.c (.str [])))))
    .nil)
def b_is_row (f_is_piece : Nat) : Ss := (.cons (.ret (.and (.o1 (.isT "tuple") (.v 0)) (.o1 .all (.lc false [1] (.nm 1) (.seq (.v 0)) .nil (.call f_is_piece (idPm 1) (.cons (.v 1) .nil) .nil)))))
    .nil)
def b_is_rule (f_is_row : Nat) : Ss := (.cons (.ret (.and (.call f_is_row (idPm 1) (.cons (.v 0) .nil) .nil) (.o2 .eq (.o1 .len (.v 0)) (.c (.int 2)))))
    .nil)
def b_is_manner (g_MANNERS : Nat) : Ss := (.cons (.ret (.and (.o1 (.isT "str") (.v 0)) (.o2 .isin (.v 0) (.g g_MANNERS))))
    .nil)
def b_are_letters (f_is_letter : Nat) : Ss := (.cons (.cond (.or (.not (.o1 (.isT "tuple") (.v 0))) (.or (.o2 .eq (.o1 .len (.v 0)) (.c (.int 0))) (.not (.o1 .all (.lc false [1] (.nm 1) (.seq (.v 0)) .nil (.call f_is_letter (idPm 1) (.cons (.v 1) .nil) .nil)))))) (.cons (.ret (.c (.bl false)))
    .nil) .nil)
    (.cons (.ret (.o1 .all (.lc false [1, 2] (.tp (.cons (.nm 1) (.cons (.nm 2) .nil))) (.zip (.v 0) (.sl true false (.v 0) (.c (.int 1)) (.c .non))) .nil (.o2 .lt (.v 1) (.v 2)))))
    .nil))
def b_is_text_of (f_is_text : Nat) : Ss := (.cons (.ret (.and (.call f_is_text (idPm 1) (.cons (.v 0) .nil) .nil) (.o1 .all (.lc false [2] (.nm 2) (.seq (.v 0)) .nil (.o2 .isin (.v 2) (.v 1))))))
    .nil)
def b_is_rule_of (f_is_rule f_is_text_of : Nat) : Ss := (.cons (.ret (.and (.call f_is_rule (idPm 1) (.cons (.v 0) .nil) .nil) (.o1 .all (.lc false [2] (.nm 2) (.seq (.v 0)) .nil (.call f_is_text_of (idPm 2) (.cons (.v 2) (.cons (.v 1) .nil)) .nil)))))
    .nil)
def b_rules_fault (f_is_rule_of : Nat) : Ss := (.cons (.for_ (.tp (.cons (.nm 2) (.cons (.nm 3) .nil))) (.enm (.v 0)) (.cons (.cond (.not (.call f_is_rule_of (idPm 2) (.cons (.v 3) (.cons (.v 1) .nil)) .nil)) (.cons (.ret (.tup true (.cons (.c (.str [114, 117, 108, 101])) (.cons (.v 2) .nil))))
    .nil) .nil)
    .nil))
    (.cons (.asg (.nm 4) (.newd true .nil))
    (.cons (.for_ (.tp (.cons (.nm 2) (.cons (.nm 3) .nil))) (.enm (.v 0)) (.cons (.cond (.o2 .isin (.v 3) (.v 4)) (.cons (.ret (.tup true (.cons (.c (.str [100, 111, 117, 98, 108, 101])) (.cons (.v 2) .nil))))
    .nil) .nil)
    (.cons (.sub (.v 4) (.v 3) (.c (.bl true)))
    .nil)))
    (.cons (.ret (.c .non))
    .nil))))
def b_table_fault (f_is_manner f_rules_fault f_are_letters : Nat) : Ss := (.cons (.cond (.or (.not (.o1 (.isT "tuple") (.v 0))) (.o2 .ne (.o1 .len (.v 0)) (.c (.int 3)))) (.cons (.ret (.tup true (.cons (.c (.str [115, 104, 97, 112, 101])) (.cons (.o1 .neg (.c (.int 1))) .nil))))
    .nil) .nil)
    (.cons (.asg (.tp (.cons (.nm 1) (.cons (.nm 2) (.cons (.nm 3) .nil)))) (.v 0))
    (.cons (.cond (.not (.call f_are_letters (idPm 1) (.cons (.v 1) .nil) .nil)) (.cons (.ret (.tup true (.cons (.c (.str [108, 101, 116, 116, 101, 114, 115])) (.cons (.o1 .neg (.c (.int 1))) .nil))))
    .nil) .nil)
    (.cons (.cond (.not (.o1 (.isT "tuple") (.v 2))) (.cons (.ret (.tup true (.cons (.c (.str [114, 117, 108, 101, 115])) (.cons (.o1 .neg (.c (.int 1))) .nil))))
    .nil) .nil)
    (.cons (.asg (.nm 4) (.call f_rules_fault (idPm 2) (.cons (.v 2) (.cons (.v 1) .nil)) .nil))
    (.cons (.cond (.and (.o2 .isN (.v 4) (.c .non)) (.not (.call f_is_manner (idPm 1) (.cons (.v 3) .nil) .nil))) (.cons (.ret (.tup true (.cons (.c (.str [109, 97, 110, 110, 101, 114])) (.cons (.o1 .neg (.c (.int 1))) .nil))))
    .nil) .nil)
    (.cons (.ret (.v 4))
    .nil)))))))
def b_require_usable (x_NotUsable : Nat) : Ss := (.cons (.cond (.not (.v 0)) (.cons (.raise x_NotUsable (.cons (.v 1) (.cons (.o1 .neg (.c (.int 1))) .nil)))
    .nil) .nil)
    .nil)
def b_lets_table (x_InvalidPaper f_table_fault : Nat) : Ss := (.cons (.asg (.nm 1) (.call f_table_fault (idPm 1) (.cons (.v 0) .nil) .nil))
    (.cons (.cond (.o2 .notN (.v 1) (.c .non)) (.cons (.asg (.tp (.cons (.nm 2) (.cons (.nm 3) .nil))) (.v 1))
    (.cons (.raise x_InvalidPaper (.cons (.v 2) (.cons (.v 3) .nil)))
    .nil)) .nil)
    (.cons (.ret (.o1 .len (.o2 .ix (.v 0) (.c (.int 1)))))
    .nil)))
def b_with_rule (f_is_number f_require_usable f_is_rule_of : Nat) : Ss := (.cons (.asg (.tp (.cons (.nm 3) (.cons (.nm 4) (.cons (.nm 5) .nil)))) (.v 0))
    (.cons (.ex (.call f_require_usable (idPm 2) (.cons (.and (.call f_is_rule_of (idPm 2) (.cons (.v 1) (.cons (.v 3) .nil)) .nil) (.o2 .notin (.v 1) (.v 4))) (.cons (.c (.str [114, 117, 108, 101])) .nil)) .nil))
    (.cons (.ex (.call f_require_usable (idPm 2) (.cons (.or (.o2 .isN (.v 2) (.c .non)) (.and (.call f_is_number (idPm 1) (.cons (.v 2) .nil) .nil) (.o2 .le (.v 2) (.o1 .len (.v 4))))) (.cons (.c (.str [114, 97, 110, 107])) .nil)) .nil))
    (.cons (.asg (.nm 6) (.ife (.o2 .isN (.v 2) (.c .non)) (.o1 .len (.v 4)) (.v 2)))
    (.cons (.ret (.tup true (.cons (.v 3) (.cons (.tup true (.star (.sl false true (.v 4) (.c .non) (.v 6)) (.cons (.v 1) (.star (.sl true false (.v 4) (.v 6) (.c .non)) .nil)))) (.cons (.v 5) .nil)))))
    .nil)))))
def b_without_rule (f_is_number f_require_usable : Nat) : Ss := (.cons (.asg (.tp (.cons (.nm 2) (.cons (.nm 3) (.cons (.nm 4) .nil)))) (.v 0))
    (.cons (.ex (.call f_require_usable (idPm 2) (.cons (.and (.call f_is_number (idPm 1) (.cons (.v 1) .nil) .nil) (.o2 .lt (.v 1) (.o1 .len (.v 3)))) (.cons (.c (.str [114, 97, 110, 107])) .nil)) .nil))
    (.cons (.ret (.tup true (.cons (.v 2) (.cons (.o1 .tupleK (.lc false [5, 6] (.tp (.cons (.nm 5) (.cons (.nm 6) .nil))) (.enm (.v 3)) (.cons (.o2 .ne (.v 5) (.v 1)) .nil) (.v 6))) (.cons (.v 4) .nil)))))
    .nil)))
def b_exchanged (f_is_number f_require_usable : Nat) : Ss := (.cons (.asg (.tp (.cons (.nm 2) (.cons (.nm 3) (.cons (.nm 4) .nil)))) (.v 0))
    (.cons (.ex (.call f_require_usable (idPm 2) (.cons (.and (.call f_is_number (idPm 1) (.cons (.v 1) .nil) .nil) (.o2 .lt (.o2 .add (.v 1) (.c (.int 1))) (.o1 .len (.v 3)))) (.cons (.c (.str [114, 97, 110, 107])) .nil)) .nil))
    (.cons (.asg (.nm 5) (.lof (.v 3)))
    (.cons (.sub2 (.v 5) (.v 1) (.v 5) (.o2 .add (.v 1) (.c (.int 1))) (.o2 .ix (.v 3) (.o2 .add (.v 1) (.c (.int 1)))) (.o2 .ix (.v 3) (.v 1)))
    (.cons (.ret (.tup true (.cons (.v 2) (.cons (.o1 .tuple (.v 5)) (.cons (.v 4) .nil)))))
    .nil)))))
def b_with_manner (f_is_manner f_require_usable : Nat) : Ss := (.cons (.ex (.call f_require_usable (idPm 2) (.cons (.call f_is_manner (idPm 1) (.cons (.v 1) .nil) .nil) (.cons (.c (.str [109, 97, 110, 110, 101, 114])) .nil)) .nil))
    (.cons (.ret (.tup true (.cons (.o2 .ix (.v 0) (.c (.int 0))) (.cons (.o2 .ix (.v 0) (.c (.int 1))) (.cons (.v 1) .nil)))))
    .nil))
def b_with_letters (f_are_letters f_require_usable : Nat) : Ss := (.cons (.ex (.call f_require_usable (idPm 2) (.cons (.and (.call f_are_letters (idPm 1) (.cons (.v 1) .nil) .nil) (.o1 .all (.lc false [2] (.nm 2) (.seq (.o2 .ix (.v 0) (.c (.int 0)))) .nil (.o2 .isin (.v 2) (.v 1))))) (.cons (.c (.str [108, 101, 116, 116, 101, 114, 115])) .nil)) .nil))
    (.cons (.ret (.tup true (.cons (.v 1) (.cons (.o2 .ix (.v 0) (.c (.int 1))) (.cons (.o2 .ix (.v 0) (.c (.int 2))) .nil)))))
    .nil))
def b_first_rules (f_is_number f_require_usable : Nat) : Ss := (.cons (.asg (.tp (.cons (.nm 2) (.cons (.nm 3) (.cons (.nm 4) .nil)))) (.v 0))
    (.cons (.ex (.call f_require_usable (idPm 2) (.cons (.and (.call f_is_number (idPm 1) (.cons (.v 1) .nil) .nil) (.o2 .le (.v 1) (.o1 .len (.v 3)))) (.cons (.c (.str [110])) .nil)) .nil))
    (.cons (.ret (.tup true (.cons (.v 2) (.cons (.sl false true (.v 3) (.c .non) (.v 1)) (.cons (.v 4) .nil)))))
    .nil)))
def b_are_names_for (f_is_letter : Nat) : Ss := (.cons (.cond (.or (.not (.o1 (.isT "tuple") (.v 0))) (.not (.o1 .all (.lc false [2] (.nm 2) (.seq (.v 0)) .nil (.call f_is_letter (idPm 1) (.cons (.v 2) .nil) .nil))))) (.cons (.ret (.c (.bl false)))
    .nil) .nil)
    (.cons (.ret (.chain .eq .eq (.o1 .len (.v 0)) (.o1 .len (.v 1)) (.o1 .lenSet (.v 0))))
    .nil))
def b_renamed (f_are_names_for f_require_usable : Nat) : Ss := (.cons (.asg (.tp (.cons (.nm 2) (.cons (.nm 3) (.cons (.nm 4) .nil)))) (.v 0))
    (.cons (.ex (.call f_require_usable (idPm 2) (.cons (.call f_are_names_for (idPm 2) (.cons (.v 1) (.cons (.v 2) .nil)) .nil) (.cons (.c (.str [108, 101, 116, 116, 101, 114, 115])) .nil)) .nil))
    (.cons (.asg (.nm 5) (.dc false [7, 8] (.tp (.cons (.nm 7) (.cons (.nm 8) .nil))) (.zip (.v 2) (.v 1)) (.v 7) (.v 8)))
    (.cons (.asg (.nm 6) (.lc false [9] (.nm 9) (.seq (.v 3)) .nil (.o1 .tupleK (.lc false [10] (.nm 10) (.seq (.v 9)) .nil (.o2 .join (.c (.str [])) (.lc false [11] (.nm 11) (.seq (.v 10)) .nil (.o2 .ix (.v 5) (.v 11))))))))
    (.cons (.ret (.tup true (.cons (.o1 .tuple (.o1 .sorted (.v 1))) (.cons (.o1 .tuple (.v 6)) (.cons (.v 4) .nil)))))
    .nil)))))
def b_mirrored (w_MIRRORS f_require_usable : Nat) : Ss := (.cons (.asg (.tp (.cons (.nm 1) (.cons (.nm 2) (.cons (.nm 3) .nil)))) (.v 0))
    (.cons (.ex (.call f_require_usable (idPm 2) (.cons (.win false w_MIRRORS (.v 3)) (.cons (.c (.str [109, 97, 110, 110, 101, 114])) .nil)) .nil))
    (.cons (.ret (.tup true (.cons (.v 1) (.cons (.o1 .tupleK (.lc false [4, 5] (.tp (.cons (.nm 4) (.cons (.nm 5) .nil))) (.seq (.v 2)) .nil (.tup true (.cons (.back (.v 5)) (.cons (.back (.v 4)) .nil))))) (.cons (.wget w_MIRRORS (.v 3)) .nil)))))
    .nil)))
def b_law_feed : Ss := (.cons (.ret (.newd false (.cons (.c (.str [99, 101, 108, 108, 115])) (.cons (.lc false [1] (.nm 1) (.seq (.sl false true (.v 0) (.c .non) (.c (.int 63)))) .nil (.o1 .int (.v 1))) (.cons (.c (.str [110, 101, 120, 116])) (.cons (.c (.int 0)) (.cons (.c (.str [114, 101, 115, 116])) (.cons (.c (.int 0)) (.cons (.c (.str [99, 111, 117, 110, 116])) (.cons (.c (.int 0)) .nil))))))))))
    .nil)
def b_law_draw : Ss := (.cons (.sub (.v 0) (.c (.str [99, 111, 117, 110, 116])) (.o2 .add (.o2 .ix (.v 0) (.c (.str [99, 111, 117, 110, 116]))) (.c (.int 1))))
    (.cons (.cond (.o2 .gt (.o2 .ix (.v 0) (.c (.str [114, 101, 115, 116]))) (.c (.int 0))) (.cons (.asg (.nm 6) (.o2 .mod (.o1 .int (.o2 .ix (.v 0) (.c (.str [114, 101, 115, 116])))) (.v 1)))
    (.cons (.sub (.v 0) (.c (.str [114, 101, 115, 116])) (.o2 .fdiv (.o2 .ix (.v 0) (.c (.str [114, 101, 115, 116]))) (.v 1)))
    (.cons (.ret (.v 6))
    .nil))) .nil)
    (.cons (.par [2, 3] (.cons (.o2 .ix (.v 0) (.c (.str [99, 101, 108, 108, 115]))) (.cons (.o2 .ix (.v 0) (.c (.str [110, 101, 120, 116]))) .nil)))
    (.cons (.sub (.v 0) (.c (.str [110, 101, 120, 116])) (.o2 .add (.v 3) (.c (.int 1))))
    (.cons (.cond (.and (.o2 .lt (.v 3) (.o1 .len (.v 2))) (.o2 .ge (.o2 .ix (.v 2) (.v 3)) (.o2 .pow (.c (.int 10)) (.c (.int 18))))) (.cons (.sub (.v 0) (.c (.str [114, 101, 115, 116])) (.o2 .fdiv (.o2 .ix (.v 2) (.v 3)) (.v 1)))
    (.cons (.ret (.o2 .mod (.o1 .int (.o2 .ix (.v 2) (.v 3))) (.v 1)))
    .nil)) .nil)
    (.cons (.asg (.nm 4) (.ife (.o2 .gt (.o1 .len (.v 2)) (.c (.int 0))) (.o2 .ix (.v 2) (.o2 .mod (.o1 .int (.v 3)) (.o1 .len (.v 2)))) (.c (.int 271828))))
    (.cons (.asg (.nm 5) (.o2 .mod (.o1 .int (.o2 .add (.o2 .add (.o2 .mul (.o2 .mod (.o1 .int (.v 4)) (.c (.int 1000003))) (.c (.int 3571))) (.o2 .mul (.o2 .ix (.v 0) (.c (.str [99, 111, 117, 110, 116]))) (.c (.int 104651)))) (.c (.int 19)))) (.c (.int 2147483629))))
    (.cons (.asg (.nm 5) (.o2 .mod (.o1 .int (.o2 .add (.o2 .add (.o2 .mul (.v 5) (.v 5)) (.o2 .mul (.o2 .ix (.v 0) (.c (.str [99, 111, 117, 110, 116]))) (.c (.int 7919)))) (.c (.int 101)))) (.c (.int 2147483587))))
    (.cons (.asg (.nm 5) (.o2 .mod (.o1 .int (.o2 .add (.o2 .add (.o2 .mul (.v 5) (.v 5)) (.o2 .mul (.c (.int 613)) (.v 5))) (.c (.int 7)))) (.c (.int 2147483563))))
    (.cons (.ret (.o2 .mod (.o1 .int (.o2 .fdiv (.v 5) (.c (.int 128)))) (.v 1)))
    .nil))))))))))
def b_law_pick (f_law_draw : Nat) : Ss := (.cons (.ret (.o2 .ix (.v 1) (.call f_law_draw (idPm 2) (.cons (.v 0) (.cons (.o1 .len (.v 1)) .nil)) .nil)))
    .nil)
def b_law_letters (f_law_draw f_law_pick : Nat) : Ss := (.cons (.asg (.nm 1) (.c (.str [97, 98, 99, 100, 101, 102, 103, 104, 105, 106, 107, 108, 109, 110, 111, 112, 113, 114, 115, 116, 117, 118, 119, 120, 121, 122])))
    (.cons (.cond (.o2 .eq (.call f_law_draw (idPm 2) (.cons (.v 0) (.cons (.c (.int 3)) .nil)) .nil) (.c (.int 0))) (.cons (.ret (.o1 .tuple (.call f_law_pick (idPm 2) (.cons (.v 0) (.cons (.lst (.cons (.c (.str [97, 98, 99])) (.cons (.c (.str [97, 98])) (.cons (.c (.str [97])) (.cons (.c (.str [112, 113])) (.cons (.c (.str [97, 109, 122])) (.cons (.c (.str [119, 120, 121, 122])) (.cons (.v 1) .nil)))))))) .nil)) .nil)))
    .nil) .nil)
    (.cons (.ret (.o1 .tuple (.o1 .sortedSet (.lc false [2] (.nm 2) (.rng1 (.o2 .add (.c (.int 1)) (.call f_law_draw (idPm 2) (.cons (.v 0) (.cons (.c (.int 4)) .nil)) .nil))) .nil (.call f_law_pick (idPm 2) (.cons (.v 0) (.cons (.v 1) .nil)) .nil)))))
    .nil)))
def b_law_piece (f_law_draw f_law_pick : Nat) : Ss := (.cons (.ret (.o2 .join (.c (.str [])) (.lc false [3] (.nm 3) (.rng1 (.o2 .add (.c (.int 1)) (.call f_law_draw (idPm 2) (.cons (.v 0) (.cons (.v 2) .nil)) .nil))) .nil (.call f_law_pick (idPm 2) (.cons (.v 0) (.cons (.v 1) .nil)) .nil))))
    .nil)
def b_law_rules (f_law_draw f_law_piece f_law_pick : Nat) : Ss := (.cons (.par [4, 5, 6] (.cons (.lof (.v 1)) (.cons (.newl .nil) (.cons (.call f_law_draw (idPm 2) (.cons (.v 0) (.cons (.c (.int 4)) .nil)) .nil) .nil))))
    (.cons (.for_ (.nm 7) (.rng1 (.v 2)) (.cons (.asg (.nm 9) (.tup true (.cons (.call f_law_pick (idPm 2) (.cons (.v 0) (.cons (.v 4) .nil)) .nil) (.cons (.call f_law_pick (idPm 2) (.cons (.v 0) (.cons (.v 4) .nil)) .nil) .nil))))
    (.cons (.cond (.or (.o2 .eq (.v 6) (.c (.int 3))) (.and (.o2 .eq (.v 6) (.c (.int 2))) (.o2 .eq (.call f_law_draw (idPm 2) (.cons (.v 0) (.cons (.c (.int 3)) .nil)) .nil) (.c (.int 0))))) (.cons (.asg (.nm 9) (.tup true (.cons (.call f_law_piece (idPm 3) (.cons (.v 0) (.cons (.v 1) (.cons (.c (.int 3)) .nil))) .nil) (.cons (.call f_law_piece (idPm 3) (.cons (.v 0) (.cons (.v 1) (.cons (.c (.int 3)) .nil))) .nil) .nil))))
    .nil) .nil)
    (.cons (.cond (.and (.o2 .le (.o2 .add (.o1 .len (.o2 .ix (.v 9) (.c (.int 0)))) (.o1 .len (.o2 .ix (.v 9) (.c (.int 1))))) (.v 3)) (.o2 .notin (.v 9) (.v 5))) (.cons (.app (.v 5) (.v 9))
    (.cons (.app (.v 4) (.o2 .add (.o2 .ix (.v 9) (.c (.int 0))) (.o2 .ix (.v 9) (.c (.int 1)))))
    .nil)) .nil)
    .nil))))
    (.cons (.asg (.nm 8) (.call f_law_draw (idPm 2) (.cons (.v 0) (.cons (.c (.int 3)) .nil)) .nil))
    (.cons (.ret (.o1 .tuple (.ife (.o2 .eq (.v 8) (.c (.int 0))) (.v 5) (.ife (.o2 .eq (.v 8) (.c (.int 1))) (.back (.v 5)) (.o2 .add (.sl true false (.v 5) (.o2 .fdiv (.o1 .len (.v 5)) (.c (.int 2))) (.c .non)) (.sl false true (.v 5) (.c .non) (.o2 .fdiv (.o1 .len (.v 5)) (.c (.int 2)))))))))
    .nil))))
def b_law_triple (f_law_rules f_law_letters f_law_pick : Nat) : Ss := (.cons (.asg (.nm 3) (.call f_law_pick (idPm 2) (.cons (.v 0) (.cons (.lst (.cons (.c (.str [114, 97, 110, 107, 101, 100])) (.cons (.c (.str [114, 105, 103, 104, 116, 114, 97, 110, 107, 101, 100])) (.cons (.c (.str [108, 101, 102, 116, 109, 111, 115, 116])) (.cons (.c (.str [114, 105, 103, 104, 116, 109, 111, 115, 116])) (.cons (.c (.str [111, 110, 99, 101])) .nil)))))) .nil)) .nil))
    (.cons (.asg (.nm 4) (.call f_law_letters (idPm 1) (.cons (.v 0) .nil) .nil))
    (.cons (.ret (.tup true (.cons (.v 4) (.cons (.call f_law_rules (idPm 4) (.cons (.v 0) (.cons (.v 4) (.cons (.v 1) (.cons (.v 2) .nil)))) .nil) (.cons (.v 3) .nil)))))
    .nil)))
def b_law_same (f_law_same : Nat) : Ss := (.cons (.cond (.o1 (.isT "tuple") (.v 1)) (.cons (.cond (.or (.not (.o1 (.isT "tuple") (.v 0))) (.o2 .ne (.o1 .len (.v 0)) (.o1 .len (.v 1)))) (.cons (.ret (.c (.bl false)))
    .nil) .nil)
    (.cons (.ret (.o2 .eq (.lc false [2] (.nm 2) (.rng1 (.o1 .len (.v 1))) (.cons (.not (.call f_law_same (idPm 2) (.cons (.o2 .ix (.v 0) (.v 2)) (.cons (.o2 .ix (.v 1) (.v 2)) .nil)) .nil)) .nil) (.v 2)) (.lst .nil)))
    .nil)) .nil)
    (.cons (.cond (.o2 .isN (.v 1) (.c .non)) (.cons (.ret (.o2 .isN (.v 0) (.c .non)))
    .nil) .nil)
    (.cons (.cond (.o1 (.isT "bool") (.v 1)) (.cons (.ret (.and (.o1 (.isT "bool") (.v 0)) (.o2 .eq (.v 0) (.v 1))))
    .nil) .nil)
    (.cons (.cond (.o1 (.isT "str") (.v 1)) (.cons (.ret (.and (.o1 (.isT "str") (.v 0)) (.o2 .eq (.v 0) (.v 1))))
    .nil) .nil)
    (.cons (.ret (.and (.o1 (.isT "int") (.v 0)) (.and (.not (.o1 (.isT "bool") (.v 0))) (.o2 .eq (.v 0) (.v 1)))))
    .nil)))))
def b_law_no : Ss := (.cons (.ret (.tup true (.cons (.c (.str [78, 111, 116, 85, 115, 97, 98, 108, 101])) (.cons (.v 0) (.cons (.o1 .neg (.c (.int 1))) .nil)))))
    .nil)
def b_law_new_rule (f_law_piece f_law_pick f_law_draw : Nat) : Ss := (.cons (.asg (.tp (.cons (.nm 2) (.cons (.nm 3) .nil))) (.tup true (.cons (.o2 .ix (.v 1) (.c (.int 0))) (.cons (.o2 .ix (.v 1) (.c (.int 1))) .nil))))
    (.cons (.asg (.nm 4) (.call f_law_draw (idPm 2) (.cons (.v 0) (.cons (.c (.int 5)) .nil)) .nil))
    (.cons (.cond (.and (.o2 .eq (.v 4) (.c (.int 0))) (.o2 .gt (.o1 .len (.v 3)) (.c (.int 0)))) (.cons (.ret (.call f_law_pick (idPm 2) (.cons (.v 0) (.cons (.v 3) .nil)) .nil))
    .nil) .nil)
    (.cons (.cond (.o2 .eq (.v 4) (.c (.int 1))) (.cons (.ret (.tup true (.cons (.o2 .ix (.v 2) (.c (.int 0))) (.cons (.o2 .ix (.lc false [5] (.nm 5) (.seq (.c (.str [97, 98, 99, 100, 101, 102, 103, 104, 105, 106, 107, 108, 109, 110, 111, 112, 113, 114, 115, 116, 117, 118, 119, 120, 121, 122, 65]))) (.cons (.o2 .notin (.v 5) (.v 2)) .nil) (.v 5)) (.c (.int 0))) .nil))))
    .nil) .nil)
    (.cons (.ret (.tup true (.cons (.call f_law_piece (idPm 3) (.cons (.v 0) (.cons (.v 2) (.cons (.c (.int 4)) .nil))) .nil) (.cons (.call f_law_piece (idPm 3) (.cons (.v 0) (.cons (.v 2) (.cons (.c (.int 4)) .nil))) .nil) .nil))))
    .nil)))))
def b_law_put (f_law_no : Nat) : Ss := (.cons (.asg (.tp (.cons (.nm 3) (.cons (.nm 4) (.cons (.nm 5) .nil)))) (.v 0))
    (.cons (.cond (.or (.o2 .ne (.lc false [6] (.nm 6) (.seq (.o2 .add (.o2 .ix (.v 1) (.c (.int 0))) (.o2 .ix (.v 1) (.c (.int 1))))) (.cons (.o2 .notin (.v 6) (.v 3)) .nil) (.v 6)) (.lst .nil)) (.o2 .isin (.v 1) (.v 4))) (.cons (.ret (.call f_law_no (idPm 1) (.cons (.c (.str [114, 117, 108, 101])) .nil) .nil))
    .nil) .nil)
    (.cons (.cond (.o2 .gt (.v 2) (.o1 .len (.v 4))) (.cons (.ret (.call f_law_no (idPm 1) (.cons (.c (.str [114, 97, 110, 107])) .nil) .nil))
    .nil) .nil)
    (.cons (.ret (.tup true (.cons (.c (.str [103, 97, 118, 101])) (.cons (.tup true (.cons (.v 3) (.cons (.o2 .add (.o2 .add (.sl false true (.v 4) (.c .non) (.v 2)) (.tup true (.cons (.v 1) .nil))) (.sl true false (.v 4) (.v 2) (.c .non))) (.cons (.v 5) .nil)))) .nil))))
    .nil))))
def b_law_changed (f_first_rules f_law_heard f_law_no f_with_letters f_law_draw f_law_pick f_with_manner f_exchanged f_without_rule f_law_put f_with_rule f_law_new_rule : Nat) : Ss := (.cons (.asg (.tp (.cons (.nm 2) (.cons (.nm 3) (.cons (.nm 4) .nil)))) (.v 1))
    (.cons (.asg (.tp (.cons (.nm 5) (.cons (.nm 6) .nil))) (.tup true (.cons (.call f_law_draw (idPm 2) (.cons (.v 0) (.cons (.c (.int 7)) .nil)) .nil) (.cons (.call f_law_draw (idPm 2) (.cons (.v 0) (.cons (.o2 .add (.o1 .len (.v 3)) (.c (.int 2))) .nil)) .nil) .nil))))
    (.cons (.cond (.o2 .lt (.v 5) (.c (.int 2))) (.cons (.asg (.nm 8) (.call f_law_new_rule (idPm 2) (.cons (.v 0) (.cons (.v 1) .nil)) .nil))
    (.cons (.ret (.tup true (.cons (.told f_law_heard (.call f_with_rule (idPm 3) (.cons (.v 1) (.cons (.v 8) .nil)) (.cons (.v 6) .nil))) (.cons (.call f_law_put (idPm 3) (.cons (.v 1) (.cons (.v 8) (.cons (.v 6) .nil))) .nil) .nil))))
    .nil)) .nil)
    (.cons (.cond (.o2 .eq (.v 5) (.c (.int 2))) (.cons (.asg (.nm 7) (.call f_law_no (idPm 1) (.cons (.c (.str [114, 97, 110, 107])) .nil) .nil))
    (.cons (.cond (.o2 .lt (.v 6) (.o1 .len (.v 3))) (.cons (.asg (.nm 7) (.tup true (.cons (.c (.str [103, 97, 118, 101])) (.cons (.tup true (.cons (.v 2) (.cons (.o2 .add (.sl false true (.v 3) (.c .non) (.v 6)) (.sl true false (.v 3) (.o2 .add (.v 6) (.c (.int 1))) (.c .non))) (.cons (.v 4) .nil)))) .nil))))
    .nil) .nil)
    (.cons (.ret (.tup true (.cons (.told f_law_heard (.call f_without_rule (idPm 2) (.cons (.v 1) (.cons (.v 6) .nil)) .nil)) (.cons (.v 7) .nil))))
    .nil))) .nil)
    (.cons (.cond (.o2 .eq (.v 5) (.c (.int 3))) (.cons (.asg (.nm 9) (.o2 .add (.sl false true (.v 3) (.c .non) (.v 6)) (.sl true true (.v 3) (.o2 .add (.v 6) (.c (.int 1))) (.o2 .add (.v 6) (.c (.int 2))))))
    (.cons (.asg (.nm 9) (.o2 .add (.o2 .add (.v 9) (.sl true true (.v 3) (.v 6) (.o2 .add (.v 6) (.c (.int 1))))) (.sl true false (.v 3) (.o2 .add (.v 6) (.c (.int 2))) (.c .non))))
    (.cons (.asg (.nm 7) (.call f_law_no (idPm 1) (.cons (.c (.str [114, 97, 110, 107])) .nil) .nil))
    (.cons (.cond (.o2 .lt (.o2 .add (.v 6) (.c (.int 1))) (.o1 .len (.v 3))) (.cons (.asg (.nm 7) (.tup true (.cons (.c (.str [103, 97, 118, 101])) (.cons (.tup true (.cons (.v 2) (.cons (.v 9) (.cons (.v 4) .nil)))) .nil))))
    .nil) .nil)
    (.cons (.ret (.tup true (.cons (.told f_law_heard (.call f_exchanged (idPm 2) (.cons (.v 1) (.cons (.v 6) .nil)) .nil)) (.cons (.v 7) .nil))))
    .nil))))) .nil)
    (.cons (.cond (.o2 .eq (.v 5) (.c (.int 4))) (.cons (.asg (.nm 9) (.call f_law_pick (idPm 2) (.cons (.v 0) (.cons (.lst (.cons (.c (.str [114, 97, 110, 107, 101, 100])) (.cons (.c (.str [114, 105, 103, 104, 116, 114, 97, 110, 107, 101, 100])) (.cons (.c (.str [108, 101, 102, 116, 109, 111, 115, 116])) (.cons (.c (.str [114, 105, 103, 104, 116, 109, 111, 115, 116])) (.cons (.c (.str [111, 110, 99, 101])) (.cons (.c (.str [116, 119, 105, 99, 101])) .nil))))))) .nil)) .nil))
    (.cons (.asg (.nm 7) (.ife (.o2 .ne (.v 9) (.c (.str [116, 119, 105, 99, 101]))) (.tup true (.cons (.c (.str [103, 97, 118, 101])) (.cons (.tup true (.cons (.v 2) (.cons (.v 3) (.cons (.v 9) .nil)))) .nil))) (.call f_law_no (idPm 1) (.cons (.c (.str [109, 97, 110, 110, 101, 114])) .nil) .nil)))
    (.cons (.ret (.tup true (.cons (.told f_law_heard (.call f_with_manner (idPm 2) (.cons (.v 1) (.cons (.v 9) .nil)) .nil)) (.cons (.v 7) .nil))))
    .nil))) .nil)
    (.cons (.cond (.o2 .eq (.v 5) (.c (.int 5))) (.cons (.asg (.nm 10) (.call f_law_pick (idPm 2) (.cons (.v 0) (.cons (.c (.str [97, 98, 99, 100, 101, 102, 103, 104, 105, 106, 107, 108, 109, 110, 111, 112, 113, 114, 115, 116, 117, 118, 119, 120, 121, 122])) .nil)) .nil))
    (.cons (.asg (.nm 9) (.o1 .tuple (.o1 .sortedSet (.o2 .add (.o1 .list (.v 2)) (.lst (.cons (.v 10) .nil))))))
    (.cons (.asg (.nm 9) (.ife (.o2 .gt (.call f_law_draw (idPm 2) (.cons (.v 0) (.cons (.c (.int 3)) .nil)) .nil) (.c (.int 0))) (.v 9) (.sl true false (.v 9) (.c (.int 1)) (.c .non))))
    (.cons (.asg (.nm 7) (.tup true (.cons (.c (.str [103, 97, 118, 101])) (.cons (.tup true (.cons (.v 9) (.cons (.v 3) (.cons (.v 4) .nil)))) .nil))))
    (.cons (.cond (.or (.o2 .eq (.o1 .len (.v 9)) (.c (.int 0))) (.o2 .ne (.lc false [10] (.nm 10) (.seq (.v 2)) (.cons (.o2 .notin (.v 10) (.v 9)) .nil) (.v 10)) (.lst .nil))) (.cons (.asg (.nm 7) (.call f_law_no (idPm 1) (.cons (.c (.str [108, 101, 116, 116, 101, 114, 115])) .nil) .nil))
    .nil) .nil)
    (.cons (.ret (.tup true (.cons (.told f_law_heard (.call f_with_letters (idPm 2) (.cons (.v 1) (.cons (.v 9) .nil)) .nil)) (.cons (.v 7) .nil))))
    .nil)))))) .nil)
    (.cons (.asg (.nm 7) (.call f_law_no (idPm 1) (.cons (.c (.str [110])) .nil) .nil))
    (.cons (.cond (.o2 .le (.v 6) (.o1 .len (.v 3))) (.cons (.asg (.nm 7) (.tup true (.cons (.c (.str [103, 97, 118, 101])) (.cons (.tup true (.cons (.v 2) (.cons (.sl false true (.v 3) (.c .non) (.v 6)) (.cons (.v 4) .nil)))) .nil))))
    .nil) .nil)
    (.cons (.ret (.tup true (.cons (.told f_law_heard (.call f_first_rules (idPm 2) (.cons (.v 1) (.cons (.v 6) .nil)) .nil)) (.cons (.v 7) .nil))))
    .nil))))))))))
def b_law_undone (f_law_same f_exchanged f_without_rule f_with_rule : Nat) : Ss := (.cons (.asg (.nm 2) (.o2 .ix (.v 0) (.c (.int 1))))
    (.cons (.asg (.nm 3) (.call f_without_rule (idPm 2) (.cons (.v 0) (.cons (.v 1) .nil)) .nil))
    (.cons (.cond (.not (.call f_law_same (idPm 2) (.cons (.call f_with_rule (idPm 3) (.cons (.v 3) (.cons (.o2 .ix (.v 2) (.v 1)) .nil)) (.cons (.v 1) .nil)) (.cons (.v 0) .nil)) .nil)) (.cons (.ret (.c (.bl false)))
    .nil) .nil)
    (.cons (.asg (.nm 4) (.call f_with_rule (idPm 2 ++ [.inr .non]) (.cons (.v 3) (.cons (.o2 .ix (.v 2) (.v 1)) .nil)) .nil))
    (.cons (.cond (.not (.call f_law_same (idPm 2) (.cons (.call f_without_rule (idPm 2) (.cons (.v 4) (.cons (.o2 .sub (.o1 .len (.v 2)) (.c (.int 1))) .nil)) .nil) (.cons (.v 3) .nil)) .nil)) (.cons (.ret (.c (.bl false)))
    .nil) .nil)
    (.cons (.asg (.nm 5) (.v 0))
    (.cons (.for_ (.nm 6) (.rng2 (.v 1) (.o2 .sub (.o1 .len (.v 2)) (.c (.int 1)))) (.cons (.asg (.nm 7) (.call f_exchanged (idPm 2) (.cons (.v 5) (.cons (.v 6) .nil)) .nil))
    (.cons (.cond (.not (.call f_law_same (idPm 2) (.cons (.call f_exchanged (idPm 2) (.cons (.v 7) (.cons (.v 6) .nil)) .nil) (.cons (.v 5) .nil)) .nil)) (.cons (.ret (.c (.bl false)))
    .nil) .nil)
    (.cons (.asg (.nm 5) (.v 7))
    .nil))))
    (.cons (.ret (.call f_law_same (idPm 2) (.cons (.v 5) (.cons (.v 4) .nil)) .nil))
    .nil))))))))
def b_law_filled (f_law_same f_first_rules f_with_rule : Nat) : Ss := (.cons (.asg (.nm 2) (.call f_first_rules (idPm 2) (.cons (.v 0) (.cons (.v 1) .nil)) .nil))
    (.cons (.cond (.not (.call f_law_same (idPm 2) (.cons (.o2 .ix (.v 2) (.c (.int 1))) (.cons (.sl false true (.o2 .ix (.v 0) (.c (.int 1))) (.c .non) (.v 1)) .nil)) .nil)) (.cons (.ret (.c (.bl false)))
    .nil) .nil)
    (.cons (.for_ (.nm 3) (.seq (.sl true false (.o2 .ix (.v 0) (.c (.int 1))) (.v 1) (.c .non))) (.cons (.asg (.nm 2) (.call f_with_rule (idPm 2 ++ [.inr .non]) (.cons (.v 2) (.cons (.v 3) .nil)) .nil))
    .nil))
    (.cons (.ret (.and (.call f_law_same (idPm 2) (.cons (.v 2) (.cons (.v 0) .nil)) .nil) (.call f_law_same (idPm 2) (.cons (.call f_first_rules (idPm 2) (.cons (.v 2) (.cons (.o1 .len (.o2 .ix (.v 0) (.c (.int 1)))) .nil)) .nil) (.cons (.v 0) .nil)) .nil)))
    .nil))))
def b_law_through (f_mirrored f_with_rule f_law_same f_renamed : Nat) : Ss := (.cons (.asg (.nm 4) (.call f_with_rule (idPm 3) (.cons (.v 0) (.cons (.v 1) .nil)) (.cons (.v 2) .nil)))
    (.cons (.asg (.nm 5) (.lc false [9] (.nm 9) (.seq (.o2 .add (.o2 .ix (.v 1) (.c (.int 0))) (.o2 .ix (.v 1) (.c (.int 1))))) .nil (.idx true (.o2 .ix (.v 0) (.c (.int 0))) (.v 9))))
    (.cons (.asg (.nm 6) (.o2 .join (.c (.str [])) (.lc false [10] (.nm 10) (.seq (.v 5)) .nil (.o2 .ix (.v 3) (.v 10)))))
    (.cons (.asg (.nm 7) (.tup true (.cons (.sl false true (.v 6) (.c .non) (.o1 .len (.o2 .ix (.v 1) (.c (.int 0))))) (.cons (.sl true false (.v 6) (.o1 .len (.o2 .ix (.v 1) (.c (.int 0)))) (.c .non)) .nil))))
    (.cons (.cond (.not (.call f_law_same (idPm 2) (.cons (.call f_renamed (idPm 2) (.cons (.v 4) (.cons (.v 3) .nil)) .nil) (.cons (.call f_with_rule (idPm 3) (.cons (.call f_renamed (idPm 2) (.cons (.v 0) (.cons (.v 3) .nil)) .nil) (.cons (.v 7) .nil)) (.cons (.v 2) .nil)) .nil)) .nil)) (.cons (.ret (.c (.bl false)))
    .nil) .nil)
    (.cons (.cond (.o2 .eq (.o2 .ix (.v 0) (.c (.int 2))) (.c (.str [111, 110, 99, 101]))) (.cons (.ret (.c (.bl true)))
    .nil) .nil)
    (.cons (.asg (.nm 8) (.tup true (.cons (.back (.o2 .ix (.v 1) (.c (.int 1)))) (.cons (.back (.o2 .ix (.v 1) (.c (.int 0)))) .nil))))
    (.cons (.ret (.call f_law_same (idPm 2) (.cons (.call f_mirrored (idPm 1) (.cons (.v 4) .nil) .nil) (.cons (.call f_with_rule (idPm 3) (.cons (.call f_mirrored (idPm 1) (.cons (.v 0) .nil) .nil) (.cons (.v 8) .nil)) (.cons (.v 2) .nil)) .nil)) .nil))
    .nil))))))))
def b_law_back (f_law_draw f_law_undone f_law_put f_law_through f_with_rule f_without_rule f_law_same f_law_new_rule f_with_manner f_law_pick f_lets_table f_law_filled : Nat) : Ss := (.cons (.asg (.nm 2) (.o1 .len (.o2 .ix (.v 1) (.c (.int 1)))))
    (.cons (.cond (.or (.not (.call f_law_same (idPm 2) (.cons (.call f_lets_table (idPm 1) (.cons (.v 1) .nil) .nil) (.cons (.v 2) .nil)) .nil)) (.not (.call f_law_filled (idPm 2) (.cons (.v 1) (.cons (.call f_law_draw (idPm 2) (.cons (.v 0) (.cons (.o2 .add (.v 2) (.c (.int 1))) .nil)) .nil) .nil)) .nil))) (.cons (.ret (.c (.bl false)))
    .nil) .nil)
    (.cons (.asg (.nm 3) (.call f_with_manner (idPm 2) (.cons (.v 1) (.cons (.call f_law_pick (idPm 2) (.cons (.v 0) (.cons (.lst (.cons (.c (.str [114, 97, 110, 107, 101, 100])) (.cons (.c (.str [111, 110, 99, 101])) (.cons (.c (.str [108, 101, 102, 116, 109, 111, 115, 116])) .nil)))) .nil)) .nil) .nil)) .nil))
    (.cons (.cond (.not (.call f_law_same (idPm 2) (.cons (.call f_with_manner (idPm 2) (.cons (.v 3) (.cons (.o2 .ix (.v 1) (.c (.int 2))) .nil)) .nil) (.cons (.v 1) .nil)) .nil)) (.cons (.ret (.c (.bl false)))
    .nil) .nil)
    (.cons (.par [4, 5] (.cons (.call f_law_new_rule (idPm 2) (.cons (.v 0) (.cons (.v 1) .nil)) .nil) (.cons (.call f_law_draw (idPm 2) (.cons (.v 0) (.cons (.o2 .add (.v 2) (.c (.int 1))) .nil)) .nil) .nil)))
    (.cons (.cond (.o2 .eq (.o2 .ix (.call f_law_put (idPm 3) (.cons (.v 1) (.cons (.v 4) (.cons (.v 5) .nil))) .nil) (.c (.int 0))) (.c (.str [103, 97, 118, 101]))) (.cons (.cond (.not (.call f_law_same (idPm 2) (.cons (.call f_without_rule (idPm 2) (.cons (.call f_with_rule (idPm 3) (.cons (.v 1) (.cons (.v 4) .nil)) (.cons (.v 5) .nil)) (.cons (.v 5) .nil)) .nil) (.cons (.v 1) .nil)) .nil)) (.cons (.ret (.c (.bl false)))
    .nil) .nil)
    (.cons (.cond (.not (.call f_law_through (idPm 4) (.cons (.v 1) (.cons (.v 4) (.cons (.v 5) (.cons (.o2 .add (.sl true false (.o2 .ix (.v 1) (.c (.int 0))) (.c (.int 1)) (.c .non)) (.sl false true (.o2 .ix (.v 1) (.c (.int 0))) (.c .non) (.c (.int 1)))) .nil)))) .nil)) (.cons (.ret (.c (.bl false)))
    .nil) .nil)
    .nil)) .nil)
    (.cons (.ret (.or (.o2 .eq (.v 2) (.c (.int 0))) (.call f_law_undone (idPm 2) (.cons (.v 1) (.cons (.call f_law_draw (idPm 2) (.cons (.v 0) (.cons (.v 2) .nil)) .nil) .nil)) .nil)))
    .nil)))))))
def b_law (f_law_back f_law_draw f_law_same f_law_changed f_law_triple f_law_feed : Nat) : Ss := (.cons (.asg (.nm 1) (.call f_law_feed (idPm 1) (.cons (.v 0) .nil) .nil))
    (.cons (.asg (.nm 2) (.call f_law_triple (idPm 3) (.cons (.v 1) (.cons (.c (.int 8)) (.cons (.c (.int 12)) .nil))) .nil))
    (.cons (.for_ (.nm 3) (.rng1 (.o2 .add (.c (.int 1)) (.call f_law_draw (idPm 2) (.cons (.v 1) (.cons (.c (.int 10)) .nil)) .nil))) (.cons (.cond (.not (.call f_law_back (idPm 2) (.cons (.v 1) (.cons (.v 2) .nil)) .nil)) (.cons (.ret (.c (.bl false)))
    .nil) .nil)
    (.cons (.asg (.tp (.cons (.nm 4) (.cons (.nm 5) .nil))) (.call f_law_changed (idPm 2) (.cons (.v 1) (.cons (.v 2) .nil)) .nil))
    (.cons (.cond (.not (.call f_law_same (idPm 2) (.cons (.v 4) (.cons (.v 5) .nil)) .nil)) (.cons (.ret (.c (.bl false)))
    .nil) .nil)
    (.cons (.cond (.o2 .eq (.o2 .ix (.v 5) (.c (.int 0))) (.c (.str [103, 97, 118, 101]))) (.cons (.asg (.nm 2) (.o2 .ix (.v 5) (.c (.int 1))))
    .nil) .nil)
    .nil)))))
    (.cons (.ret (.call f_law_back (idPm 2) (.cons (.v 1) (.cons (.v 2) .nil)) .nil))
    .nil))))
end KB
end
section
set_option Elab.async false
set_option linter.all false
set_option maxRecDepth 100000
set_option autoImplicit false
set_option maxHeartbeats 4000000
namespace K11
open PySem PySem.Spec PyProof.Rows L2 LamX DL
def top (i : Nat) : Stmt := PySem.Challenge.pw_paircuts_k11_whole_changes_there_and_bac.main.body.getD i (.Pass ⟨0, 0, 0, 0⟩)
def tb_0 : List (Str × List Str) := [("is_integer", ["thing"]),
  ("is_number", ["thing"]),
  ("is_text", ["thing"]),
  ("is_letter", ["thing"]),
  ("is_piece", ["thing"]),
  ("is_row", ["thing"]),
  ("is_rule", ["thing"]),
  ("is_manner", ["thing"]),
  ("are_letters", ["thing"]),
  ("is_text_of", ["thing", "letters"]),
  ("is_rule_of", ["thing", "letters"]),
  ("rules_fault", ["rules", "letters"]),
  ("table_fault", ["thing"]),
  ("require_usable", ["is_usable", "word"]),
  ("lets_table", ["thing"]),
  ("", []),
  ("without_rule", ["table", "rank"]),
  ("exchanged", ["table", "rank"]),
  ("with_manner", ["table", "manner"]),
  ("with_letters", ["table", "letters"]),
  ("first_rules", ["table", "n"]),
  ("are_names_for", ["thing", "letters"]),
  ("renamed", ["table", "letters"]),
  ("mirrored", ["table"]),
  ("_law_feed", ["_law_script"]),
  ("_law_draw", ["_law_feed_here", "_law_many"]),
  ("_law_pick", ["_law_feed_here", "_law_things"]),
  ("_law_letters", ["_law_feed_here"]),
  ("_law_piece", ["_law_feed_here", "_law_signs", "_law_most"]),
  ("_law_rules", ["_law_feed_here", "_law_signs", "_law_many", "_law_most"])]
def tb_1 : List (Str × List Str) := [("_law_triple", ["_law_feed_here", "_law_many", "_law_most"]),
  ("_law_same", ["_law_told", "_law_due"]),
  ("", []),
  ("_law_no", ["_law_word"]),
  ("_law_new_rule", ["_law_feed_here", "_law_triple_here"]),
  ("_law_put", ["_law_triple_here", "_law_pair", "_law_k"]),
  ("_law_changed", ["_law_feed_here", "_law_triple_here"]),
  ("_law_undone", ["_law_triple_here", "_law_k"]),
  ("_law_filled", ["_law_triple_here", "_law_k"]),
  ("_law_through", ["_law_triple_here", "_law_pair", "_law_k", "_law_signs"]),
  ("_law_back", ["_law_feed_here", "_law_triple_here"]),
  ("law", ["_law_script"])]
def tb : List (Str × List Str) := tb_0 ++ tb_1

def gt : List (Str × D) := [("LETTERS", .str [97, 98, 99, 100, 101, 102, 103, 104, 105, 106, 107, 108, 109, 110, 111, 112, 113, 114, 115, 116, 117, 118, 119, 120, 121, 122]), ("MANNERS", .tup [.str [114, 97, 110, 107, 101, 100], .str [114, 105, 103, 104, 116, 114, 97, 110, 107, 101, 100], .str [108, 101, 102, 116, 109, 111, 115, 116], .str [114, 105, 103, 104, 116, 109, 111, 115, 116], .str [111, 110, 99, 101]])]
end K11
end
section
set_option Elab.async false
set_option linter.all false
set_option maxRecDepth 100000
set_option autoImplicit false
set_option maxHeartbeats 4000000
namespace K11
open PySem PySem.Spec PyProof.Rows L2 LamX DL
variable {Z : Fix} {P : Program} {w : World} {K : PySem.W.Frag} {mg : Str → Option Value} {base : Heap} {Pf : Fns} {u : Under} {k : Nat}
abbrev n_is_integer : List Str := ["thing"]
theorem d_is_integer {cdv : Value} {A : Around} {outer : List PySem.Env} {s : Shared} {H : Hp} {E : XK} (T : Tp Z P w K mg base k Pf tb gt) (hr2 : Room (k + 2) (A.deeper (envOfC "is_integer" (defScope (top 3)) s.heap.objs.size (Z.fa 0) cdv))) :
    RSs Z (fun cls d _ H => E cls d H) Pf u (cxOf (L2.CX P w) P w K mg base n_is_integer "is_integer" (defScope (top 3)) (Z.fa 0) cdv A outer s H E) (defBody (top 3)) KB.b_is_integer := by
  have hr := hr2.mono (Nat.le_add_right k 2)
  have g : Gd Z (cxOf (L2.CX P w) P w K mg base n_is_integer "is_integer" (defScope (top 3)) (Z.fa 0) cdv A outer s H E) := gd_of T hr (by decide +kernel)
  have B0 := T.bl
  have tk : Takes (cxOf (L2.CX P w) P w K mg base n_is_integer "is_integer" (defScope (top 3)) (Z.fa 0) cdv A outer s H E) (fun cls d _ H => E cls d H) := takes_of rfl rfl rfl rfl
  have pw : PassesOwn (model P w) (cxOf (L2.CX P w) P w K mg base n_is_integer "is_integer" (defScope (top 3)) (Z.fa 0) cdv A outer s H E).A (cxOf (L2.CX P w) P w K mg base n_is_integer "is_integer" (defScope (top 3)) (Z.fa 0) cdv A outer s H E).env (cxOf (L2.CX P w) P w K mg base n_is_integer "is_integer" (defScope (top 3)) (Z.fa 0) cdv A outer s H E).xe := passes_of rfl
  exact (ss_cons (s_ret (r_and (isa_ g B0 B0.int (ha := v_)) (r_one (r_not g (isa_ g B0 B0.bool (ha := v_))))))
    ss_nil)
abbrev n_is_number : List Str := ["thing"]
theorem d_is_number {cdv : Value} {A : Around} {outer : List PySem.Env} {s : Shared} {H : Hp} {E : XK} (T : Tp Z P w K mg base k Pf tb gt) (hr2 : Room (k + 2) (A.deeper (envOfC "is_number" (defScope (top 4)) s.heap.objs.size (Z.fa 1) cdv))) :
    RSs Z (fun cls d _ H => E cls d H) Pf u (cxOf (L2.CX P w) P w K mg base n_is_number "is_number" (defScope (top 4)) (Z.fa 1) cdv A outer s H E) (defBody (top 4)) (KB.b_is_number 0) := by
  have hr := hr2.mono (Nat.le_add_right k 2)
  have g : Gd Z (cxOf (L2.CX P w) P w K mg base n_is_number "is_number" (defScope (top 4)) (Z.fa 1) cdv A outer s H E) := gd_of T hr (by decide +kernel)
  have B0 := T.bl
  have tk : Takes (cxOf (L2.CX P w) P w K mg base n_is_number "is_number" (defScope (top 4)) (Z.fa 1) cdv A outer s H E) (fun cls d _ H => E cls d H) := takes_of rfl rfl rfl rfl
  have pw : PassesOwn (model P w) (cxOf (L2.CX P w) P w K mg base n_is_number "is_number" (defScope (top 4)) (Z.fa 1) cdv A outer s H E).A (cxOf (L2.CX P w) P w K mg base n_is_number "is_number" (defScope (top 4)) (Z.fa 1) cdv A outer s H E).env (cxOf (L2.CX P w) P w K mg base n_is_number "is_number" (defScope (top 4)) (Z.fa 1) cdv A outer s H E).xe := passes_of rfl
  exact (ss_cons (s_ret (r_and (call_ tk T hr 0 (acons_ v_ ra_nil)) (r_one (ge_ g v_ r_int))))
    ss_nil)
abbrev n_is_text : List Str := ["thing", "sign"]
theorem d_is_text {cdv : Value} {A : Around} {outer : List PySem.Env} {s : Shared} {H : Hp} {E : XK} (T : Tp Z P w K mg base k Pf tb gt) (hr2 : Room (k + 2) (A.deeper (envOfC "is_text" (defScope (top 5)) s.heap.objs.size (Z.fa 2) cdv))) :
    RSs Z (fun cls d _ H => E cls d H) Pf u (cxOf (L2.CX P w) P w K mg base n_is_text "is_text" (defScope (top 5)) (Z.fa 2) cdv A outer s H E) (defBody (top 5)) (KB.b_is_text 0) := by
  have hr := hr2.mono (Nat.le_add_right k 2)
  have g : Gd Z (cxOf (L2.CX P w) P w K mg base n_is_text "is_text" (defScope (top 5)) (Z.fa 2) cdv A outer s H E) := gd_of T hr (by decide +kernel)
  have B0 := T.bl
  have tk : Takes (cxOf (L2.CX P w) P w K mg base n_is_text "is_text" (defScope (top 5)) (Z.fa 2) cdv A outer s H E) (fun cls d _ H => E cls d H) := takes_of rfl rfl rfl rfl
  have pw : PassesOwn (model P w) (cxOf (L2.CX P w) P w K mg base n_is_text "is_text" (defScope (top 5)) (Z.fa 2) cdv A outer s H E).A (cxOf (L2.CX P w) P w K mg base n_is_text "is_text" (defScope (top 5)) (Z.fa 2) cdv A outer s H E).env (cxOf (L2.CX P w) P w K mg base n_is_text "is_text" (defScope (top 5)) (Z.fa 2) cdv A outer s H E).xe := passes_of rfl
  exact (ss_cons (s_ret (r_and (isa_ g B0 B0.str (ha := v_)) (r_one (all_ g B0 (lc_ [("sign", 1)] g (i_seq g v_) (fun _ _ _ _ _ => (nm_ (g).blk)) (fun _ _ _ _ _ => c_nil) (fun _ _ _ _ _ => (in_ (g).blk v_ (gl_ T 0))))))))
    ss_nil)
abbrev n_is_letter : List Str := ["thing"]
theorem d_is_letter {cdv : Value} {A : Around} {outer : List PySem.Env} {s : Shared} {H : Hp} {E : XK} (T : Tp Z P w K mg base k Pf tb gt) (hr2 : Room (k + 2) (A.deeper (envOfC "is_letter" (defScope (top 6)) s.heap.objs.size (Z.fa 3) cdv))) :
    RSs Z (fun cls d _ H => E cls d H) Pf u (cxOf (L2.CX P w) P w K mg base n_is_letter "is_letter" (defScope (top 6)) (Z.fa 3) cdv A outer s H E) (defBody (top 6)) (KB.b_is_letter 2) := by
  have hr := hr2.mono (Nat.le_add_right k 2)
  have g : Gd Z (cxOf (L2.CX P w) P w K mg base n_is_letter "is_letter" (defScope (top 6)) (Z.fa 3) cdv A outer s H E) := gd_of T hr (by decide +kernel)
  have B0 := T.bl
  have tk : Takes (cxOf (L2.CX P w) P w K mg base n_is_letter "is_letter" (defScope (top 6)) (Z.fa 3) cdv A outer s H E) (fun cls d _ H => E cls d H) := takes_of rfl rfl rfl rfl
  have pw : PassesOwn (model P w) (cxOf (L2.CX P w) P w K mg base n_is_letter "is_letter" (defScope (top 6)) (Z.fa 3) cdv A outer s H E).A (cxOf (L2.CX P w) P w K mg base n_is_letter "is_letter" (defScope (top 6)) (Z.fa 3) cdv A outer s H E).env (cxOf (L2.CX P w) P w K mg base n_is_letter "is_letter" (defScope (top 6)) (Z.fa 3) cdv A outer s H E).xe := passes_of rfl
  exact (ss_cons (s_ret (r_and (call_ tk T hr 2 (acons_ v_ ra_nil)) (r_one (eq_ g (len_ g B0 v_) r_int))))
    ss_nil)
abbrev n_is_piece : List Str := ["thing"]
theorem d_is_piece {cdv : Value} {A : Around} {outer : List PySem.Env} {s : Shared} {H : Hp} {E : XK} (T : Tp Z P w K mg base k Pf tb gt) (hr2 : Room (k + 2) (A.deeper (envOfC "is_piece" (defScope (top 7)) s.heap.objs.size (Z.fa 4) cdv))) :
    RSs Z (fun cls d _ H => E cls d H) Pf u (cxOf (L2.CX P w) P w K mg base n_is_piece "is_piece" (defScope (top 7)) (Z.fa 4) cdv A outer s H E) (defBody (top 7)) (KB.b_is_piece 2) := by
  have hr := hr2.mono (Nat.le_add_right k 2)
  have g : Gd Z (cxOf (L2.CX P w) P w K mg base n_is_piece "is_piece" (defScope (top 7)) (Z.fa 4) cdv A outer s H E) := gd_of T hr (by decide +kernel)
  have B0 := T.bl
  have tk : Takes (cxOf (L2.CX P w) P w K mg base n_is_piece "is_piece" (defScope (top 7)) (Z.fa 4) cdv A outer s H E) (fun cls d _ H => E cls d H) := takes_of rfl rfl rfl rfl
  have pw : PassesOwn (model P w) (cxOf (L2.CX P w) P w K mg base n_is_piece "is_piece" (defScope (top 7)) (Z.fa 4) cdv A outer s H E).A (cxOf (L2.CX P w) P w K mg base n_is_piece "is_piece" (defScope (top 7)) (Z.fa 4) cdv A outer s H E).env (cxOf (L2.CX P w) P w K mg base n_is_piece "is_piece" (defScope (top 7)) (Z.fa 4) cdv A outer s H E).xe := passes_of rfl
  exact (ss_cons (s_ret (r_and (call_ tk T hr 2 (acons_ v_ ra_nil)) (r_one (ne_ g v_ str_))))
    ss_nil)
abbrev n_is_row : List Str := ["thing", "one"]
theorem d_is_row {cdv : Value} {A : Around} {outer : List PySem.Env} {s : Shared} {H : Hp} {E : XK} (T : Tp Z P w K mg base k Pf tb gt) (hr2 : Room (k + 2) (A.deeper (envOfC "is_row" (defScope (top 8)) s.heap.objs.size (Z.fa 5) cdv))) :
    RSs Z (fun cls d _ H => E cls d H) Pf u (cxOf (L2.CX P w) P w K mg base n_is_row "is_row" (defScope (top 8)) (Z.fa 5) cdv A outer s H E) (defBody (top 8)) (KB.b_is_row 4) := by
  have hr := hr2.mono (Nat.le_add_right k 2)
  have g : Gd Z (cxOf (L2.CX P w) P w K mg base n_is_row "is_row" (defScope (top 8)) (Z.fa 5) cdv A outer s H E) := gd_of T hr (by decide +kernel)
  have B0 := T.bl
  have tk : Takes (cxOf (L2.CX P w) P w K mg base n_is_row "is_row" (defScope (top 8)) (Z.fa 5) cdv A outer s H E) (fun cls d _ H => E cls d H) := takes_of rfl rfl rfl rfl
  have pw : PassesOwn (model P w) (cxOf (L2.CX P w) P w K mg base n_is_row "is_row" (defScope (top 8)) (Z.fa 5) cdv A outer s H E).A (cxOf (L2.CX P w) P w K mg base n_is_row "is_row" (defScope (top 8)) (Z.fa 5) cdv A outer s H E).env (cxOf (L2.CX P w) P w K mg base n_is_row "is_row" (defScope (top 8)) (Z.fa 5) cdv A outer s H E).xe := passes_of rfl
  exact (ss_cons (s_ret (r_and (isa_ g B0 B0.tuple (ha := v_)) (r_one (all_ g B0 (lc_ [("one", 1)] g (i_seq g v_) (fun _ _ _ _ _ => (nm_ (g).blk)) (fun _ _ _ _ _ => c_nil) (fun _ _ _ _ _ => (call_ takes_blk T hr 4 (acons_ v_ ra_nil))))))))
    ss_nil)
abbrev n_is_rule : List Str := ["thing"]
theorem d_is_rule {cdv : Value} {A : Around} {outer : List PySem.Env} {s : Shared} {H : Hp} {E : XK} (T : Tp Z P w K mg base k Pf tb gt) (hr2 : Room (k + 2) (A.deeper (envOfC "is_rule" (defScope (top 9)) s.heap.objs.size (Z.fa 6) cdv))) :
    RSs Z (fun cls d _ H => E cls d H) Pf u (cxOf (L2.CX P w) P w K mg base n_is_rule "is_rule" (defScope (top 9)) (Z.fa 6) cdv A outer s H E) (defBody (top 9)) (KB.b_is_rule 5) := by
  have hr := hr2.mono (Nat.le_add_right k 2)
  have g : Gd Z (cxOf (L2.CX P w) P w K mg base n_is_rule "is_rule" (defScope (top 9)) (Z.fa 6) cdv A outer s H E) := gd_of T hr (by decide +kernel)
  have B0 := T.bl
  have tk : Takes (cxOf (L2.CX P w) P w K mg base n_is_rule "is_rule" (defScope (top 9)) (Z.fa 6) cdv A outer s H E) (fun cls d _ H => E cls d H) := takes_of rfl rfl rfl rfl
  have pw : PassesOwn (model P w) (cxOf (L2.CX P w) P w K mg base n_is_rule "is_rule" (defScope (top 9)) (Z.fa 6) cdv A outer s H E).A (cxOf (L2.CX P w) P w K mg base n_is_rule "is_rule" (defScope (top 9)) (Z.fa 6) cdv A outer s H E).env (cxOf (L2.CX P w) P w K mg base n_is_rule "is_rule" (defScope (top 9)) (Z.fa 6) cdv A outer s H E).xe := passes_of rfl
  exact (ss_cons (s_ret (r_and (call_ tk T hr 5 (acons_ v_ ra_nil)) (r_one (eq_ g (len_ g B0 v_) r_int))))
    ss_nil)
abbrev n_is_manner : List Str := ["thing"]
theorem d_is_manner {cdv : Value} {A : Around} {outer : List PySem.Env} {s : Shared} {H : Hp} {E : XK} (T : Tp Z P w K mg base k Pf tb gt) (hr2 : Room (k + 2) (A.deeper (envOfC "is_manner" (defScope (top 10)) s.heap.objs.size (Z.fa 7) cdv))) :
    RSs Z (fun cls d _ H => E cls d H) Pf u (cxOf (L2.CX P w) P w K mg base n_is_manner "is_manner" (defScope (top 10)) (Z.fa 7) cdv A outer s H E) (defBody (top 10)) (KB.b_is_manner 1) := by
  have hr := hr2.mono (Nat.le_add_right k 2)
  have g : Gd Z (cxOf (L2.CX P w) P w K mg base n_is_manner "is_manner" (defScope (top 10)) (Z.fa 7) cdv A outer s H E) := gd_of T hr (by decide +kernel)
  have B0 := T.bl
  have tk : Takes (cxOf (L2.CX P w) P w K mg base n_is_manner "is_manner" (defScope (top 10)) (Z.fa 7) cdv A outer s H E) (fun cls d _ H => E cls d H) := takes_of rfl rfl rfl rfl
  have pw : PassesOwn (model P w) (cxOf (L2.CX P w) P w K mg base n_is_manner "is_manner" (defScope (top 10)) (Z.fa 7) cdv A outer s H E).A (cxOf (L2.CX P w) P w K mg base n_is_manner "is_manner" (defScope (top 10)) (Z.fa 7) cdv A outer s H E).env (cxOf (L2.CX P w) P w K mg base n_is_manner "is_manner" (defScope (top 10)) (Z.fa 7) cdv A outer s H E).xe := passes_of rfl
  exact (ss_cons (s_ret (r_and (isa_ g B0 B0.str (ha := v_)) (r_one (in_ g v_ (gl_ T 1)))))
    ss_nil)
abbrev n_are_letters : List Str := ["thing", "one", "other"]
theorem d_are_letters {cdv : Value} {A : Around} {outer : List PySem.Env} {s : Shared} {H : Hp} {E : XK} (T : Tp Z P w K mg base k Pf tb gt) (hr2 : Room (k + 2) (A.deeper (envOfC "are_letters" (defScope (top 11)) s.heap.objs.size (Z.fa 8) cdv))) :
    RSs Z (fun cls d _ H => E cls d H) Pf u (cxOf (L2.CX P w) P w K mg base n_are_letters "are_letters" (defScope (top 11)) (Z.fa 8) cdv A outer s H E) (defBody (top 11)) (KB.b_are_letters 3) := by
  have hr := hr2.mono (Nat.le_add_right k 2)
  have g : Gd Z (cxOf (L2.CX P w) P w K mg base n_are_letters "are_letters" (defScope (top 11)) (Z.fa 8) cdv A outer s H E) := gd_of T hr (by decide +kernel)
  have B0 := T.bl
  have tk : Takes (cxOf (L2.CX P w) P w K mg base n_are_letters "are_letters" (defScope (top 11)) (Z.fa 8) cdv A outer s H E) (fun cls d _ H => E cls d H) := takes_of rfl rfl rfl rfl
  have pw : PassesOwn (model P w) (cxOf (L2.CX P w) P w K mg base n_are_letters "are_letters" (defScope (top 11)) (Z.fa 8) cdv A outer s H E).A (cxOf (L2.CX P w) P w K mg base n_are_letters "are_letters" (defScope (top 11)) (Z.fa 8) cdv A outer s H E).env (cxOf (L2.CX P w) P w K mg base n_are_letters "are_letters" (defScope (top 11)) (Z.fa 8) cdv A outer s H E).xe := passes_of rfl
  exact (ss_cons (s_if (tw_ (w_or (t_not (tv_ g (isa_ g B0 B0.tuple (ha := v_)))) (w_or (teq_ g (len_ g B0 v_) r_int) (w_one' (t_not (tv_ g (all_ g B0 (lc_ [("one", 1)] g (i_seq g v_) (fun _ _ _ _ _ => (nm_ (g).blk)) (fun _ _ _ _ _ => c_nil) (fun _ _ _ _ _ => (call_ takes_blk T hr 3 (acons_ v_ ra_nil))))))))))) (ss_cons (s_ret r_bl)
    ss_nil) ss_nil)
    (ss_cons (s_ret (all_ g B0 (lc_ [("one", 1), ("other", 2)] g (zip_ g B0 v_ (r_sl g v_ (o_some r_int) o_none)) (fun _ _ _ _ _ => (tp_ (g).blk (gcons_ (nm_ (g).blk) (gcons_ (nm_ (g).blk) gs_nil)))) (fun _ _ _ _ _ => c_nil) (fun _ _ _ _ _ => (lt_ (g).blk v_ v_)))))
    ss_nil))
abbrev n_is_text_of : List Str := ["thing", "letters", "sign"]
theorem d_is_text_of {cdv : Value} {A : Around} {outer : List PySem.Env} {s : Shared} {H : Hp} {E : XK} (T : Tp Z P w K mg base k Pf tb gt) (hr2 : Room (k + 2) (A.deeper (envOfC "is_text_of" (defScope (top 12)) s.heap.objs.size (Z.fa 9) cdv))) :
    RSs Z (fun cls d _ H => E cls d H) Pf u (cxOf (L2.CX P w) P w K mg base n_is_text_of "is_text_of" (defScope (top 12)) (Z.fa 9) cdv A outer s H E) (defBody (top 12)) (KB.b_is_text_of 2) := by
  have hr := hr2.mono (Nat.le_add_right k 2)
  have g : Gd Z (cxOf (L2.CX P w) P w K mg base n_is_text_of "is_text_of" (defScope (top 12)) (Z.fa 9) cdv A outer s H E) := gd_of T hr (by decide +kernel)
  have B0 := T.bl
  have tk : Takes (cxOf (L2.CX P w) P w K mg base n_is_text_of "is_text_of" (defScope (top 12)) (Z.fa 9) cdv A outer s H E) (fun cls d _ H => E cls d H) := takes_of rfl rfl rfl rfl
  have pw : PassesOwn (model P w) (cxOf (L2.CX P w) P w K mg base n_is_text_of "is_text_of" (defScope (top 12)) (Z.fa 9) cdv A outer s H E).A (cxOf (L2.CX P w) P w K mg base n_is_text_of "is_text_of" (defScope (top 12)) (Z.fa 9) cdv A outer s H E).env (cxOf (L2.CX P w) P w K mg base n_is_text_of "is_text_of" (defScope (top 12)) (Z.fa 9) cdv A outer s H E).xe := passes_of rfl
  exact (ss_cons (s_ret (r_and (call_ tk T hr 2 (acons_ v_ ra_nil)) (r_one (all_ g B0 (lc_ [("sign", 2)] g (i_seq g v_) (fun _ _ _ _ _ => (nm_ (g).blk)) (fun _ _ _ _ _ => c_nil) (fun _ _ _ _ _ => (in_ (g).blk v_ v_)))))))
    ss_nil)
abbrev n_is_rule_of : List Str := ["thing", "letters", "one"]
theorem d_is_rule_of {cdv : Value} {A : Around} {outer : List PySem.Env} {s : Shared} {H : Hp} {E : XK} (T : Tp Z P w K mg base k Pf tb gt) (hr2 : Room (k + 2) (A.deeper (envOfC "is_rule_of" (defScope (top 13)) s.heap.objs.size (Z.fa 10) cdv))) :
    RSs Z (fun cls d _ H => E cls d H) Pf u (cxOf (L2.CX P w) P w K mg base n_is_rule_of "is_rule_of" (defScope (top 13)) (Z.fa 10) cdv A outer s H E) (defBody (top 13)) (KB.b_is_rule_of 6 9) := by
  have hr := hr2.mono (Nat.le_add_right k 2)
  have g : Gd Z (cxOf (L2.CX P w) P w K mg base n_is_rule_of "is_rule_of" (defScope (top 13)) (Z.fa 10) cdv A outer s H E) := gd_of T hr (by decide +kernel)
  have B0 := T.bl
  have tk : Takes (cxOf (L2.CX P w) P w K mg base n_is_rule_of "is_rule_of" (defScope (top 13)) (Z.fa 10) cdv A outer s H E) (fun cls d _ H => E cls d H) := takes_of rfl rfl rfl rfl
  have pw : PassesOwn (model P w) (cxOf (L2.CX P w) P w K mg base n_is_rule_of "is_rule_of" (defScope (top 13)) (Z.fa 10) cdv A outer s H E).A (cxOf (L2.CX P w) P w K mg base n_is_rule_of "is_rule_of" (defScope (top 13)) (Z.fa 10) cdv A outer s H E).env (cxOf (L2.CX P w) P w K mg base n_is_rule_of "is_rule_of" (defScope (top 13)) (Z.fa 10) cdv A outer s H E).xe := passes_of rfl
  exact (ss_cons (s_ret (r_and (call_ tk T hr 6 (acons_ v_ ra_nil)) (r_one (all_ g B0 (lc_ [("one", 2)] g (i_seq g v_) (fun _ _ _ _ _ => (nm_ (g).blk)) (fun _ _ _ _ _ => c_nil) (fun _ _ _ _ _ => (call_ takes_blk T hr 9 (acons_ v_ (acons_ v_ ra_nil)))))))))
    ss_nil)
abbrev n_rules_fault : List Str := ["rules", "letters", "k", "rule", "known"]
theorem d_rules_fault {cdv : Value} {A : Around} {outer : List PySem.Env} {s : Shared} {H : Hp} {E : XK} (T : Tp Z P w K mg base k Pf tb gt) (hr2 : Room (k + 2) (A.deeper (envOfC "rules_fault" (defScope (top 14)) s.heap.objs.size (Z.fa 11) cdv))) :
    RSs Z (fun cls d _ H => E cls d H) Pf u (cxOf (L2.CX P w) P w K mg base n_rules_fault "rules_fault" (defScope (top 14)) (Z.fa 11) cdv A outer s H E) (defBody (top 14)) (KB.b_rules_fault 10) := by
  have hr := hr2.mono (Nat.le_add_right k 2)
  have g : Gd Z (cxOf (L2.CX P w) P w K mg base n_rules_fault "rules_fault" (defScope (top 14)) (Z.fa 11) cdv A outer s H E) := gd_of T hr (by decide +kernel)
  have B0 := T.bl
  have tk : Takes (cxOf (L2.CX P w) P w K mg base n_rules_fault "rules_fault" (defScope (top 14)) (Z.fa 11) cdv A outer s H E) (fun cls d _ H => E cls d H) := takes_of rfl rfl rfl rfl
  have pw : PassesOwn (model P w) (cxOf (L2.CX P w) P w K mg base n_rules_fault "rules_fault" (defScope (top 14)) (Z.fa 11) cdv A outer s H E).A (cxOf (L2.CX P w) P w K mg base n_rules_fault "rules_fault" (defScope (top 14)) (Z.fa 11) cdv A outer s H E).env (cxOf (L2.CX P w) P w K mg base n_rules_fault "rules_fault" (defScope (top 14)) (Z.fa 11) cdv A outer s H E).xe := passes_of rfl
  exact (ss_cons (for_ g pw (enm_ g B0 v_) (tp_ g (gcons_ (nm_ g) (gcons_ (nm_ g) gs_nil))) (ss_cons (s_if (t_not (tv_ g (call_ tk T hr 10 (acons_ v_ (acons_ v_ ra_nil))))) (ss_cons (s_ret (r_key (acons_ str_ (acons_ v_ ra_nil))))
    ss_nil) ss_nil)
    ss_nil))
    (ss_cons (asg_ r_newT (nm_ g))
    (ss_cons (for_ g pw (enm_ g B0 v_) (tp_ g (gcons_ (nm_ g) (gcons_ (nm_ g) gs_nil))) (ss_cons (s_if (tin_ g v_ v_) (ss_cons (s_ret (r_key (acons_ str_ (acons_ v_ ra_nil))))
    ss_nil) ss_nil)
    (ss_cons (sub_st g v_ v_ r_bl)
    ss_nil)))
    (ss_cons (s_ret r_non)
    ss_nil))))
abbrev n_table_fault : List Str := ["thing", "letters", "rules", "manner", "fault"]
theorem d_table_fault {cdv : Value} {A : Around} {outer : List PySem.Env} {s : Shared} {H : Hp} {E : XK} (T : Tp Z P w K mg base k Pf tb gt) (hr2 : Room (k + 2) (A.deeper (envOfC "table_fault" (defScope (top 15)) s.heap.objs.size (Z.fa 12) cdv))) :
    RSs Z (fun cls d _ H => E cls d H) Pf u (cxOf (L2.CX P w) P w K mg base n_table_fault "table_fault" (defScope (top 15)) (Z.fa 12) cdv A outer s H E) (defBody (top 15)) (KB.b_table_fault 7 11 8) := by
  have hr := hr2.mono (Nat.le_add_right k 2)
  have g : Gd Z (cxOf (L2.CX P w) P w K mg base n_table_fault "table_fault" (defScope (top 15)) (Z.fa 12) cdv A outer s H E) := gd_of T hr (by decide +kernel)
  have B0 := T.bl
  have tk : Takes (cxOf (L2.CX P w) P w K mg base n_table_fault "table_fault" (defScope (top 15)) (Z.fa 12) cdv A outer s H E) (fun cls d _ H => E cls d H) := takes_of rfl rfl rfl rfl
  have pw : PassesOwn (model P w) (cxOf (L2.CX P w) P w K mg base n_table_fault "table_fault" (defScope (top 15)) (Z.fa 12) cdv A outer s H E).A (cxOf (L2.CX P w) P w K mg base n_table_fault "table_fault" (defScope (top 15)) (Z.fa 12) cdv A outer s H E).env (cxOf (L2.CX P w) P w K mg base n_table_fault "table_fault" (defScope (top 15)) (Z.fa 12) cdv A outer s H E).xe := passes_of rfl
  exact (ss_cons (s_if (tw_ (w_or (t_not (tv_ g (isa_ g B0 B0.tuple (ha := v_)))) (w_one' (tne_ g (len_ g B0 v_) r_int)))) (ss_cons (s_ret (r_key (acons_ str_ (acons_ (r_un r_int) ra_nil))))
    ss_nil) ss_nil)
    (ss_cons (asg_ v_ (tp_ g (gcons_ (nm_ g) (gcons_ (nm_ g) (gcons_ (nm_ g) gs_nil)))))
    (ss_cons (s_if (t_not (tv_ g (call_ tk T hr 8 (acons_ v_ ra_nil)))) (ss_cons (s_ret (r_key (acons_ str_ (acons_ (r_un r_int) ra_nil))))
    ss_nil) ss_nil)
    (ss_cons (s_if (t_not (tv_ g (isa_ g B0 B0.tuple (ha := v_)))) (ss_cons (s_ret (r_key (acons_ str_ (acons_ (r_un r_int) ra_nil))))
    ss_nil) ss_nil)
    (ss_cons (asg_ (call_ tk T hr 11 (acons_ v_ (acons_ v_ ra_nil))) (nm_ g))
    (ss_cons (s_if (tw_ (w_and (tis_ g v_ r_non) (w_one (t_not (tv_ g (call_ tk T hr 7 (acons_ v_ ra_nil))))))) (ss_cons (s_ret (r_key (acons_ str_ (acons_ (r_un r_int) ra_nil))))
    ss_nil) ss_nil)
    (ss_cons (s_ret v_)
    ss_nil)))))))
abbrev n_require_usable : List Str := ["is_usable", "word"]
theorem d_require_usable {cdv : Value} {A : Around} {outer : List PySem.Env} {s : Shared} {H : Hp} {E : XK} (T : Tp Z P w K mg base k Pf tb gt) (TX_NotUsable : TpX Z P K mg "NotUsable" 1 "word" "at") (hr2 : Room (k + 2) (A.deeper (envOfC "require_usable" (defScope (top 23)) s.heap.objs.size (Z.fa 13) cdv))) :
    RSs Z (fun cls d _ H => E cls d H) Pf u (cxOf (L2.CX P w) P w K mg base n_require_usable "require_usable" (defScope (top 23)) (Z.fa 13) cdv A outer s H E) (defBody (top 23)) (KB.b_require_usable 1) := by
  have hr := hr2.mono (Nat.le_add_right k 2)
  have g : Gd Z (cxOf (L2.CX P w) P w K mg base n_require_usable "require_usable" (defScope (top 23)) (Z.fa 13) cdv A outer s H E) := gd_of T hr (by decide +kernel)
  have B0 := T.bl
  have tk : Takes (cxOf (L2.CX P w) P w K mg base n_require_usable "require_usable" (defScope (top 23)) (Z.fa 13) cdv A outer s H E) (fun cls d _ H => E cls d H) := takes_of rfl rfl rfl rfl
  have pw : PassesOwn (model P w) (cxOf (L2.CX P w) P w K mg base n_require_usable "require_usable" (defScope (top 23)) (Z.fa 13) cdv A outer s H E).A (cxOf (L2.CX P w) P w K mg base n_require_usable "require_usable" (defScope (top 23)) (Z.fa 13) cdv A outer s H E).env (cxOf (L2.CX P w) P w K mg base n_require_usable "require_usable" (defScope (top 23)) (Z.fa 13) cdv A outer s H E).xe := passes_of rfl
  exact (ss_cons (s_if (t_not (tv_ g v_)) (ss_cons (raise_ g tk 1 TX_NotUsable hr (acons_ v_ (acons_ (r_un r_int) ra_nil)))
    ss_nil) ss_nil)
    ss_nil)
abbrev n_lets_table : List Str := ["thing", "fault", "word", "place"]
theorem d_lets_table {cdv : Value} {A : Around} {outer : List PySem.Env} {s : Shared} {H : Hp} {E : XK} (T : Tp Z P w K mg base k Pf tb gt) (TX_InvalidPaper : TpX Z P K mg "InvalidPaper" 0 "word" "at") (hr2 : Room (k + 2) (A.deeper (envOfC "lets_table" (defScope (top 24)) s.heap.objs.size (Z.fa 14) cdv))) :
    RSs Z (fun cls d _ H => E cls d H) Pf u (cxOf (L2.CX P w) P w K mg base n_lets_table "lets_table" (defScope (top 24)) (Z.fa 14) cdv A outer s H E) (defBody (top 24)) (KB.b_lets_table 0 12) := by
  have hr := hr2.mono (Nat.le_add_right k 2)
  have g : Gd Z (cxOf (L2.CX P w) P w K mg base n_lets_table "lets_table" (defScope (top 24)) (Z.fa 14) cdv A outer s H E) := gd_of T hr (by decide +kernel)
  have B0 := T.bl
  have tk : Takes (cxOf (L2.CX P w) P w K mg base n_lets_table "lets_table" (defScope (top 24)) (Z.fa 14) cdv A outer s H E) (fun cls d _ H => E cls d H) := takes_of rfl rfl rfl rfl
  have pw : PassesOwn (model P w) (cxOf (L2.CX P w) P w K mg base n_lets_table "lets_table" (defScope (top 24)) (Z.fa 14) cdv A outer s H E).A (cxOf (L2.CX P w) P w K mg base n_lets_table "lets_table" (defScope (top 24)) (Z.fa 14) cdv A outer s H E).env (cxOf (L2.CX P w) P w K mg base n_lets_table "lets_table" (defScope (top 24)) (Z.fa 14) cdv A outer s H E).xe := passes_of rfl
  exact (ss_cons (asg_ (call_ tk T hr 12 (acons_ v_ ra_nil)) (nm_ g))
    (ss_cons (s_if (tisn_ g v_ r_non) (ss_cons (asg_ v_ (tp_ g (gcons_ (nm_ g) (gcons_ (nm_ g) gs_nil))))
    (ss_cons (raise_ g tk 0 TX_InvalidPaper hr (acons_ v_ (acons_ v_ ra_nil)))
    ss_nil)) ss_nil)
    (ss_cons (s_ret (len_ g B0 (ix_ g v_ r_int)))
    ss_nil)))
abbrev n_with_rule : List Str := ["table", "rule", "rank", "letters", "rules", "manner", "at"]
theorem d_with_rule {cdv : Value} {A : Around} {outer : List PySem.Env} {s : Shared} {H : Hp} {E : XK} (T : Tp Z P w K mg base k Pf tb gt) (hr2 : Room (k + 2) (A.deeper (envOfC "with_rule" (defScope (top 27)) s.heap.objs.size (Z.fa 15) cdv))) :
    RSs Z (fun cls d _ H => E cls d H) Pf u (cxOf (L2.CX P w) P w K mg base n_with_rule "with_rule" (defScope (top 27)) (Z.fa 15) cdv A outer s H E) (defBody (top 27)) (KB.b_with_rule 1 13 10) := by
  have hr := hr2.mono (Nat.le_add_right k 2)
  have g : Gd Z (cxOf (L2.CX P w) P w K mg base n_with_rule "with_rule" (defScope (top 27)) (Z.fa 15) cdv A outer s H E) := gd_of T hr (by decide +kernel)
  have B0 := T.bl
  have tk : Takes (cxOf (L2.CX P w) P w K mg base n_with_rule "with_rule" (defScope (top 27)) (Z.fa 15) cdv A outer s H E) (fun cls d _ H => E cls d H) := takes_of rfl rfl rfl rfl
  have pw : PassesOwn (model P w) (cxOf (L2.CX P w) P w K mg base n_with_rule "with_rule" (defScope (top 27)) (Z.fa 15) cdv A outer s H E).A (cxOf (L2.CX P w) P w K mg base n_with_rule "with_rule" (defScope (top 27)) (Z.fa 15) cdv A outer s H E).env (cxOf (L2.CX P w) P w K mg base n_with_rule "with_rule" (defScope (top 27)) (Z.fa 15) cdv A outer s H E).xe := passes_of rfl
  exact (ss_cons (asg_ v_ (tp_ g (gcons_ (nm_ g) (gcons_ (nm_ g) (gcons_ (nm_ g) gs_nil)))))
    (ss_cons (ex_ (call_ tk T hr 13 (acons_ (r_and (call_ tk T hr 10 (acons_ v_ (acons_ v_ ra_nil))) (r_one (nin_ g v_ v_))) (acons_ str_ ra_nil))))
    (ss_cons (ex_ (call_ tk T hr 13 (acons_ (r_or (is_ g v_ r_non) (r_one (r_and (call_ tk T hr 1 (acons_ v_ ra_nil)) (r_one (le_ g v_ (len_ g B0 v_)))))) (acons_ str_ ra_nil))))
    (ss_cons (asg_ (r_ife (tis_ g v_ r_non) (len_ g B0 v_) v_) (nm_ g))
    (ss_cons (s_ret (r_key (acons_ v_ (acons_ (r_key (astar_ g (r_sl g v_ o_none (o_some v_)) (acons_ v_ (astar_ g (r_sl g v_ (o_some v_) o_none) ra_nil)))) (acons_ v_ ra_nil)))))
    ss_nil)))))
abbrev n_without_rule : List Str := ["table", "rank", "letters", "rules", "manner", "k", "rule"]
theorem d_without_rule {cdv : Value} {A : Around} {outer : List PySem.Env} {s : Shared} {H : Hp} {E : XK} (T : Tp Z P w K mg base k Pf tb gt) (hr2 : Room (k + 2) (A.deeper (envOfC "without_rule" (defScope (top 28)) s.heap.objs.size (Z.fa 16) cdv))) :
    RSs Z (fun cls d _ H => E cls d H) Pf u (cxOf (L2.CX P w) P w K mg base n_without_rule "without_rule" (defScope (top 28)) (Z.fa 16) cdv A outer s H E) (defBody (top 28)) (KB.b_without_rule 1 13) := by
  have hr := hr2.mono (Nat.le_add_right k 2)
  have g : Gd Z (cxOf (L2.CX P w) P w K mg base n_without_rule "without_rule" (defScope (top 28)) (Z.fa 16) cdv A outer s H E) := gd_of T hr (by decide +kernel)
  have B0 := T.bl
  have tk : Takes (cxOf (L2.CX P w) P w K mg base n_without_rule "without_rule" (defScope (top 28)) (Z.fa 16) cdv A outer s H E) (fun cls d _ H => E cls d H) := takes_of rfl rfl rfl rfl
  have pw : PassesOwn (model P w) (cxOf (L2.CX P w) P w K mg base n_without_rule "without_rule" (defScope (top 28)) (Z.fa 16) cdv A outer s H E).A (cxOf (L2.CX P w) P w K mg base n_without_rule "without_rule" (defScope (top 28)) (Z.fa 16) cdv A outer s H E).env (cxOf (L2.CX P w) P w K mg base n_without_rule "without_rule" (defScope (top 28)) (Z.fa 16) cdv A outer s H E).xe := passes_of rfl
  exact (ss_cons (asg_ v_ (tp_ g (gcons_ (nm_ g) (gcons_ (nm_ g) (gcons_ (nm_ g) gs_nil)))))
    (ss_cons (ex_ (call_ tk T hr 13 (acons_ (r_and (call_ tk T hr 1 (acons_ v_ ra_nil)) (r_one (lt_ g v_ (len_ g B0 v_)))) (acons_ str_ ra_nil))))
    (ss_cons (s_ret (r_key (acons_ v_ (acons_ (tupleK_ g B0 (lc_ [("k", 5), ("rule", 6)] g (enm_ g B0 v_) (fun _ _ _ _ _ => (tp_ (g).blk (gcons_ (nm_ (g).blk) (gcons_ (nm_ (g).blk) gs_nil)))) (fun _ _ _ _ _ => (c_one (tne_ (g).blk v_ v_))) (fun _ _ _ _ _ => v_))) (acons_ v_ ra_nil)))))
    ss_nil)))
abbrev n_exchanged : List Str := ["table", "rank", "letters", "rules", "manner", "turned"]
theorem d_exchanged {cdv : Value} {A : Around} {outer : List PySem.Env} {s : Shared} {H : Hp} {E : XK} (T : Tp Z P w K mg base k Pf tb gt) (hr2 : Room (k + 2) (A.deeper (envOfC "exchanged" (defScope (top 29)) s.heap.objs.size (Z.fa 17) cdv))) :
    RSs Z (fun cls d _ H => E cls d H) Pf u (cxOf (L2.CX P w) P w K mg base n_exchanged "exchanged" (defScope (top 29)) (Z.fa 17) cdv A outer s H E) (defBody (top 29)) (KB.b_exchanged 1 13) := by
  have hr := hr2.mono (Nat.le_add_right k 2)
  have g : Gd Z (cxOf (L2.CX P w) P w K mg base n_exchanged "exchanged" (defScope (top 29)) (Z.fa 17) cdv A outer s H E) := gd_of T hr (by decide +kernel)
  have B0 := T.bl
  have tk : Takes (cxOf (L2.CX P w) P w K mg base n_exchanged "exchanged" (defScope (top 29)) (Z.fa 17) cdv A outer s H E) (fun cls d _ H => E cls d H) := takes_of rfl rfl rfl rfl
  have pw : PassesOwn (model P w) (cxOf (L2.CX P w) P w K mg base n_exchanged "exchanged" (defScope (top 29)) (Z.fa 17) cdv A outer s H E).A (cxOf (L2.CX P w) P w K mg base n_exchanged "exchanged" (defScope (top 29)) (Z.fa 17) cdv A outer s H E).env (cxOf (L2.CX P w) P w K mg base n_exchanged "exchanged" (defScope (top 29)) (Z.fa 17) cdv A outer s H E).xe := passes_of rfl
  exact (ss_cons (asg_ v_ (tp_ g (gcons_ (nm_ g) (gcons_ (nm_ g) (gcons_ (nm_ g) gs_nil)))))
    (ss_cons (ex_ (call_ tk T hr 13 (acons_ (r_and (call_ tk T hr 1 (acons_ v_ ra_nil)) (r_one (lt_ g (add_ g v_ r_int) (len_ g B0 v_)))) (acons_ str_ ra_nil))))
    (ss_cons (asg_ (lof_ g B0 v_) (nm_ g))
    (ss_cons (sub2_ g v_ v_ v_ (add_ g v_ r_int) (ix_ g v_ (add_ g v_ r_int)) (ix_ g v_ v_))
    (ss_cons (s_ret (r_key (acons_ v_ (acons_ (tuple_ g B0 v_) (acons_ v_ ra_nil)))))
    ss_nil)))))
abbrev n_with_manner : List Str := ["table", "manner"]
theorem d_with_manner {cdv : Value} {A : Around} {outer : List PySem.Env} {s : Shared} {H : Hp} {E : XK} (T : Tp Z P w K mg base k Pf tb gt) (hr2 : Room (k + 2) (A.deeper (envOfC "with_manner" (defScope (top 30)) s.heap.objs.size (Z.fa 18) cdv))) :
    RSs Z (fun cls d _ H => E cls d H) Pf u (cxOf (L2.CX P w) P w K mg base n_with_manner "with_manner" (defScope (top 30)) (Z.fa 18) cdv A outer s H E) (defBody (top 30)) (KB.b_with_manner 7 13) := by
  have hr := hr2.mono (Nat.le_add_right k 2)
  have g : Gd Z (cxOf (L2.CX P w) P w K mg base n_with_manner "with_manner" (defScope (top 30)) (Z.fa 18) cdv A outer s H E) := gd_of T hr (by decide +kernel)
  have B0 := T.bl
  have tk : Takes (cxOf (L2.CX P w) P w K mg base n_with_manner "with_manner" (defScope (top 30)) (Z.fa 18) cdv A outer s H E) (fun cls d _ H => E cls d H) := takes_of rfl rfl rfl rfl
  have pw : PassesOwn (model P w) (cxOf (L2.CX P w) P w K mg base n_with_manner "with_manner" (defScope (top 30)) (Z.fa 18) cdv A outer s H E).A (cxOf (L2.CX P w) P w K mg base n_with_manner "with_manner" (defScope (top 30)) (Z.fa 18) cdv A outer s H E).env (cxOf (L2.CX P w) P w K mg base n_with_manner "with_manner" (defScope (top 30)) (Z.fa 18) cdv A outer s H E).xe := passes_of rfl
  exact (ss_cons (ex_ (call_ tk T hr 13 (acons_ (call_ tk T hr 7 (acons_ v_ ra_nil)) (acons_ str_ ra_nil))))
    (ss_cons (s_ret (r_key (acons_ (ix_ g v_ r_int) (acons_ (ix_ g v_ r_int) (acons_ v_ ra_nil)))))
    ss_nil))
abbrev n_with_letters : List Str := ["table", "letters", "letter"]
theorem d_with_letters {cdv : Value} {A : Around} {outer : List PySem.Env} {s : Shared} {H : Hp} {E : XK} (T : Tp Z P w K mg base k Pf tb gt) (hr2 : Room (k + 2) (A.deeper (envOfC "with_letters" (defScope (top 31)) s.heap.objs.size (Z.fa 19) cdv))) :
    RSs Z (fun cls d _ H => E cls d H) Pf u (cxOf (L2.CX P w) P w K mg base n_with_letters "with_letters" (defScope (top 31)) (Z.fa 19) cdv A outer s H E) (defBody (top 31)) (KB.b_with_letters 8 13) := by
  have hr := hr2.mono (Nat.le_add_right k 2)
  have g : Gd Z (cxOf (L2.CX P w) P w K mg base n_with_letters "with_letters" (defScope (top 31)) (Z.fa 19) cdv A outer s H E) := gd_of T hr (by decide +kernel)
  have B0 := T.bl
  have tk : Takes (cxOf (L2.CX P w) P w K mg base n_with_letters "with_letters" (defScope (top 31)) (Z.fa 19) cdv A outer s H E) (fun cls d _ H => E cls d H) := takes_of rfl rfl rfl rfl
  have pw : PassesOwn (model P w) (cxOf (L2.CX P w) P w K mg base n_with_letters "with_letters" (defScope (top 31)) (Z.fa 19) cdv A outer s H E).A (cxOf (L2.CX P w) P w K mg base n_with_letters "with_letters" (defScope (top 31)) (Z.fa 19) cdv A outer s H E).env (cxOf (L2.CX P w) P w K mg base n_with_letters "with_letters" (defScope (top 31)) (Z.fa 19) cdv A outer s H E).xe := passes_of rfl
  exact (ss_cons (ex_ (call_ tk T hr 13 (acons_ (r_and (call_ tk T hr 8 (acons_ v_ ra_nil)) (r_one (all_ g B0 (lc_ [("letter", 2)] g (i_seq g (ix_ g v_ r_int)) (fun _ _ _ _ _ => (nm_ (g).blk)) (fun _ _ _ _ _ => c_nil) (fun _ _ _ _ _ => (in_ (g).blk v_ v_)))))) (acons_ str_ ra_nil))))
    (ss_cons (s_ret (r_key (acons_ v_ (acons_ (ix_ g v_ r_int) (acons_ (ix_ g v_ r_int) ra_nil)))))
    ss_nil))
abbrev n_first_rules : List Str := ["table", "n", "letters", "rules", "manner"]
theorem d_first_rules {cdv : Value} {A : Around} {outer : List PySem.Env} {s : Shared} {H : Hp} {E : XK} (T : Tp Z P w K mg base k Pf tb gt) (hr2 : Room (k + 2) (A.deeper (envOfC "first_rules" (defScope (top 32)) s.heap.objs.size (Z.fa 20) cdv))) :
    RSs Z (fun cls d _ H => E cls d H) Pf u (cxOf (L2.CX P w) P w K mg base n_first_rules "first_rules" (defScope (top 32)) (Z.fa 20) cdv A outer s H E) (defBody (top 32)) (KB.b_first_rules 1 13) := by
  have hr := hr2.mono (Nat.le_add_right k 2)
  have g : Gd Z (cxOf (L2.CX P w) P w K mg base n_first_rules "first_rules" (defScope (top 32)) (Z.fa 20) cdv A outer s H E) := gd_of T hr (by decide +kernel)
  have B0 := T.bl
  have tk : Takes (cxOf (L2.CX P w) P w K mg base n_first_rules "first_rules" (defScope (top 32)) (Z.fa 20) cdv A outer s H E) (fun cls d _ H => E cls d H) := takes_of rfl rfl rfl rfl
  have pw : PassesOwn (model P w) (cxOf (L2.CX P w) P w K mg base n_first_rules "first_rules" (defScope (top 32)) (Z.fa 20) cdv A outer s H E).A (cxOf (L2.CX P w) P w K mg base n_first_rules "first_rules" (defScope (top 32)) (Z.fa 20) cdv A outer s H E).env (cxOf (L2.CX P w) P w K mg base n_first_rules "first_rules" (defScope (top 32)) (Z.fa 20) cdv A outer s H E).xe := passes_of rfl
  exact (ss_cons (asg_ v_ (tp_ g (gcons_ (nm_ g) (gcons_ (nm_ g) (gcons_ (nm_ g) gs_nil)))))
    (ss_cons (ex_ (call_ tk T hr 13 (acons_ (r_and (call_ tk T hr 1 (acons_ v_ ra_nil)) (r_one (le_ g v_ (len_ g B0 v_)))) (acons_ str_ ra_nil))))
    (ss_cons (s_ret (r_key (acons_ v_ (acons_ (r_sl g v_ o_none (o_some v_)) (acons_ v_ ra_nil)))))
    ss_nil)))
abbrev n_are_names_for : List Str := ["thing", "letters", "one"]
theorem d_are_names_for {cdv : Value} {A : Around} {outer : List PySem.Env} {s : Shared} {H : Hp} {E : XK} (T : Tp Z P w K mg base k Pf tb gt) (hr2 : Room (k + 2) (A.deeper (envOfC "are_names_for" (defScope (top 33)) s.heap.objs.size (Z.fa 21) cdv))) :
    RSs Z (fun cls d _ H => E cls d H) Pf u (cxOf (L2.CX P w) P w K mg base n_are_names_for "are_names_for" (defScope (top 33)) (Z.fa 21) cdv A outer s H E) (defBody (top 33)) (KB.b_are_names_for 3) := by
  have hr := hr2.mono (Nat.le_add_right k 2)
  have g : Gd Z (cxOf (L2.CX P w) P w K mg base n_are_names_for "are_names_for" (defScope (top 33)) (Z.fa 21) cdv A outer s H E) := gd_of T hr (by decide +kernel)
  have B0 := T.bl
  have tk : Takes (cxOf (L2.CX P w) P w K mg base n_are_names_for "are_names_for" (defScope (top 33)) (Z.fa 21) cdv A outer s H E) (fun cls d _ H => E cls d H) := takes_of rfl rfl rfl rfl
  have pw : PassesOwn (model P w) (cxOf (L2.CX P w) P w K mg base n_are_names_for "are_names_for" (defScope (top 33)) (Z.fa 21) cdv A outer s H E).A (cxOf (L2.CX P w) P w K mg base n_are_names_for "are_names_for" (defScope (top 33)) (Z.fa 21) cdv A outer s H E).env (cxOf (L2.CX P w) P w K mg base n_are_names_for "are_names_for" (defScope (top 33)) (Z.fa 21) cdv A outer s H E).xe := passes_of rfl
  exact (ss_cons (s_if (tw_ (w_or (t_not (tv_ g (isa_ g B0 B0.tuple (ha := v_)))) (w_one' (t_not (tv_ g (all_ g B0 (lc_ [("one", 2)] g (i_seq g v_) (fun _ _ _ _ _ => (nm_ (g).blk)) (fun _ _ _ _ _ => c_nil) (fun _ _ _ _ _ => (call_ takes_blk T hr 3 (acons_ v_ ra_nil)))))))))) (ss_cons (s_ret r_bl)
    ss_nil) ss_nil)
    (ss_cons (s_ret (cheq_ g (len_ g B0 v_) (len_ g B0 v_) (lset_ g B0 v_)))
    ss_nil))
abbrev n_renamed : List Str := ["table", "letters", "before", "rules", "manner", "names", "turned", "one", "other", "rule", "piece", "sign"]
theorem d_renamed {cdv : Value} {A : Around} {outer : List PySem.Env} {s : Shared} {H : Hp} {E : XK} (T : Tp Z P w K mg base k Pf tb gt) (hr2 : Room (k + 2) (A.deeper (envOfC "renamed" (defScope (top 34)) s.heap.objs.size (Z.fa 22) cdv))) :
    RSs Z (fun cls d _ H => E cls d H) Pf u (cxOf (L2.CX P w) P w K mg base n_renamed "renamed" (defScope (top 34)) (Z.fa 22) cdv A outer s H E) (defBody (top 34)) (KB.b_renamed 21 13) := by
  have hr := hr2.mono (Nat.le_add_right k 2)
  have g : Gd Z (cxOf (L2.CX P w) P w K mg base n_renamed "renamed" (defScope (top 34)) (Z.fa 22) cdv A outer s H E) := gd_of T hr (by decide +kernel)
  have B0 := T.bl
  have tk : Takes (cxOf (L2.CX P w) P w K mg base n_renamed "renamed" (defScope (top 34)) (Z.fa 22) cdv A outer s H E) (fun cls d _ H => E cls d H) := takes_of rfl rfl rfl rfl
  have pw : PassesOwn (model P w) (cxOf (L2.CX P w) P w K mg base n_renamed "renamed" (defScope (top 34)) (Z.fa 22) cdv A outer s H E).A (cxOf (L2.CX P w) P w K mg base n_renamed "renamed" (defScope (top 34)) (Z.fa 22) cdv A outer s H E).env (cxOf (L2.CX P w) P w K mg base n_renamed "renamed" (defScope (top 34)) (Z.fa 22) cdv A outer s H E).xe := passes_of rfl
  exact (ss_cons (asg_ v_ (tp_ g (gcons_ (nm_ g) (gcons_ (nm_ g) (gcons_ (nm_ g) gs_nil)))))
    (ss_cons (ex_ (call_ tk T hr 13 (acons_ (call_ tk T hr 21 (acons_ v_ (acons_ v_ ra_nil))) (acons_ str_ ra_nil))))
    (ss_cons (asg_ (dc_ [("one", 7), ("other", 8)] g (zip_ g B0 v_ v_) (fun _ _ _ _ _ => (tp_ (g).blk (gcons_ (nm_ (g).blk) (gcons_ (nm_ (g).blk) gs_nil)))) (fun _ _ _ _ _ => v_) (fun _ _ _ _ _ => v_)) (nm_ g))
    (ss_cons (slc_ [("rule", 9)] g (i_seq g v_) (fun _ _ _ _ _ => (nm_ (g).blk)) (fun _ _ _ _ _ => c_nil) (fun _ _ _ _ _ => (tupleK_ (g).blk B0 (lc_ [("piece", 10)] (g).blk (i_seq (g).blk v_) (fun _ _ _ _ _ => (nm_ ((g).blk).blk)) (fun _ _ _ _ _ => c_nil) (fun _ _ _ _ _ => (join_ ((g).blk).blk (lc_ [("sign", 11)] ((g).blk).blk (i_seq ((g).blk).blk v_) (fun _ _ _ _ _ => (nm_ (((g).blk).blk).blk)) (fun _ _ _ _ _ => c_nil) (fun _ _ _ _ _ => (ix_ (((g).blk).blk).blk v_ v_)))))))))
    (ss_cons (s_ret (r_key (acons_ (tuple_ g B0 (sorted_ g B0 v_)) (acons_ (tuple_ g B0 v_) (acons_ v_ ra_nil)))))
    ss_nil)))))
abbrev n_mirrored : List Str := ["table", "letters", "rules", "manner", "left", "right"]
theorem d_mirrored {cdv : Value} {A : Around} {outer : List PySem.Env} {s : Shared} {H : Hp} {E : XK} (T : Tp Z P w K mg base k Pf tb gt) (TD_MIRRORS : TpW Z K w mg Pf "MIRRORS" 0) (hr2 : Room (k + 2) (A.deeper (envOfC "mirrored" (defScope (top 35)) s.heap.objs.size (Z.fa 23) cdv))) :
    RSs Z (fun cls d _ H => E cls d H) Pf u (cxOf (L2.CX P w) P w K mg base n_mirrored "mirrored" (defScope (top 35)) (Z.fa 23) cdv A outer s H E) (defBody (top 35)) (KB.b_mirrored 0 13) := by
  have hr := hr2.mono (Nat.le_add_right k 2)
  have g : Gd Z (cxOf (L2.CX P w) P w K mg base n_mirrored "mirrored" (defScope (top 35)) (Z.fa 23) cdv A outer s H E) := gd_of T hr (by decide +kernel)
  have B0 := T.bl
  have tk : Takes (cxOf (L2.CX P w) P w K mg base n_mirrored "mirrored" (defScope (top 35)) (Z.fa 23) cdv A outer s H E) (fun cls d _ H => E cls d H) := takes_of rfl rfl rfl rfl
  have pw : PassesOwn (model P w) (cxOf (L2.CX P w) P w K mg base n_mirrored "mirrored" (defScope (top 35)) (Z.fa 23) cdv A outer s H E).A (cxOf (L2.CX P w) P w K mg base n_mirrored "mirrored" (defScope (top 35)) (Z.fa 23) cdv A outer s H E).env (cxOf (L2.CX P w) P w K mg base n_mirrored "mirrored" (defScope (top 35)) (Z.fa 23) cdv A outer s H E).xe := passes_of rfl
  exact (ss_cons (asg_ v_ (tp_ g (gcons_ (nm_ g) (gcons_ (nm_ g) (gcons_ (nm_ g) gs_nil)))))
    (ss_cons (ex_ (call_ tk T hr 13 (acons_ (win_ 0 TD_MIRRORS v_) (acons_ str_ ra_nil))))
    (ss_cons (s_ret (r_key (acons_ v_ (acons_ (tupleK_ g B0 (lc_ [("left", 4), ("right", 5)] g (i_seq g v_) (fun _ _ _ _ _ => (tp_ (g).blk (gcons_ (nm_ (g).blk) (gcons_ (nm_ (g).blk) gs_nil)))) (fun _ _ _ _ _ => c_nil) (fun _ _ _ _ _ => (r_key (acons_ (r_back v_) (acons_ (r_back v_) ra_nil)))))) (acons_ (wget_ 0 TD_MIRRORS v_) ra_nil)))))
    ss_nil)))
end K11
end
section
set_option Elab.async false
set_option linter.all false
set_option maxRecDepth 100000
set_option autoImplicit false
set_option maxHeartbeats 4000000
namespace K11
open PySem PySem.Spec PyProof.Rows L2 LamX DL
variable {Z : Fix} {P : Program} {w : World} {K : PySem.W.Frag} {mg : Str → Option Value} {base : Heap} {Pf : Fns} {u : Under} {k : Nat}
abbrev n__law_feed : List Str := ["_law_script", "_law_cell"]
theorem d__law_feed {cdv : Value} {A : Around} {outer : List PySem.Env} {s : Shared} {H : Hp} {E : XK} (T : Tp Z P w K mg base k Pf tb gt) (hr2 : Room (k + 2) (A.deeper (envOfC "_law_feed" (defScope (top 37)) s.heap.objs.size (Z.fa 24) cdv))) :
    RSs Z (fun cls d _ H => E cls d H) Pf u (cxOf (L2.CX P w) P w K mg base n__law_feed "_law_feed" (defScope (top 37)) (Z.fa 24) cdv A outer s H E) (defBody (top 37)) KB.b_law_feed := by
  have hr := hr2.mono (Nat.le_add_right k 2)
  have g : Gd Z (cxOf (L2.CX P w) P w K mg base n__law_feed "_law_feed" (defScope (top 37)) (Z.fa 24) cdv A outer s H E) := gd_of T hr (by decide +kernel)
  have B0 := T.bl
  have tk : Takes (cxOf (L2.CX P w) P w K mg base n__law_feed "_law_feed" (defScope (top 37)) (Z.fa 24) cdv A outer s H E) (fun cls d _ H => E cls d H) := takes_of rfl rfl rfl rfl
  have pw : PassesOwn (model P w) (cxOf (L2.CX P w) P w K mg base n__law_feed "_law_feed" (defScope (top 37)) (Z.fa 24) cdv A outer s H E).A (cxOf (L2.CX P w) P w K mg base n__law_feed "_law_feed" (defScope (top 37)) (Z.fa 24) cdv A outer s H E).env (cxOf (L2.CX P w) P w K mg base n__law_feed "_law_feed" (defScope (top 37)) (Z.fa 24) cdv A outer s H E).xe := passes_of rfl
  exact (ss_cons (s_ret (r_newd (p_cons str_ (lc_ [("_law_cell", 1)] g (i_seq g (r_sl g v_ o_none (o_some r_int))) (fun _ _ _ _ _ => (nm_ (g).blk)) (fun _ _ _ _ _ => c_nil) (fun _ _ _ _ _ => (int_ (g).blk B0 v_))) (p_cons str_ r_int (p_cons str_ r_int (p_cons str_ r_int p_nil)))) (by rfl) (by rfl) (by simp) (by decide)))
    ss_nil)
abbrev n__law_draw : List Str := ["_law_feed_here", "_law_many", "_law_cells", "_law_k", "_law_cell", "_law_mixed", "_law_digit"]
theorem d__law_draw {cdv : Value} {A : Around} {outer : List PySem.Env} {s : Shared} {H : Hp} {E : XK} (T : Tp Z P w K mg base k Pf tb gt) (hr2 : Room (k + 2) (A.deeper (envOfC "_law_draw" (defScope (top 38)) s.heap.objs.size (Z.fa 25) cdv))) :
    RSs Z (fun cls d _ H => E cls d H) Pf u (cxOf (L2.CX P w) P w K mg base n__law_draw "_law_draw" (defScope (top 38)) (Z.fa 25) cdv A outer s H E) (defBody (top 38)) KB.b_law_draw := by
  have hr := hr2.mono (Nat.le_add_right k 2)
  have g : Gd Z (cxOf (L2.CX P w) P w K mg base n__law_draw "_law_draw" (defScope (top 38)) (Z.fa 25) cdv A outer s H E) := gd_of T hr (by decide +kernel)
  have B0 := T.bl
  have tk : Takes (cxOf (L2.CX P w) P w K mg base n__law_draw "_law_draw" (defScope (top 38)) (Z.fa 25) cdv A outer s H E) (fun cls d _ H => E cls d H) := takes_of rfl rfl rfl rfl
  have pw : PassesOwn (model P w) (cxOf (L2.CX P w) P w K mg base n__law_draw "_law_draw" (defScope (top 38)) (Z.fa 25) cdv A outer s H E).A (cxOf (L2.CX P w) P w K mg base n__law_draw "_law_draw" (defScope (top 38)) (Z.fa 25) cdv A outer s H E).env (cxOf (L2.CX P w) P w K mg base n__law_draw "_law_draw" (defScope (top 38)) (Z.fa 25) cdv A outer s H E).xe := passes_of rfl
  exact (ss_cons (sub_st g v_ str_ (add_ g (ix_ g v_ str_) r_int))
    (ss_cons (s_if (tgt_ g (ix_ g v_ str_) r_int) (ss_cons (asg_ (mod_ g (int_ g B0 (ix_ g v_ str_)) v_) (nm_ g))
    (ss_cons (sub_st g v_ str_ (fdiv_ g (ix_ g v_ str_) v_))
    (ss_cons (s_ret v_)
    ss_nil))) ss_nil)
    (ss_cons (par2_ g (acons_ (ix_ g v_ str_) (acons_ (ix_ g v_ str_) ra_nil)))
    (ss_cons (sub_st g v_ str_ (add_ g v_ r_int))
    (ss_cons (s_if (tw_ (w_and (tlt_ g v_ (len_ g B0 v_)) (w_one (tge_ g (ix_ g v_ v_) (pow_ g r_int r_int))))) (ss_cons (sub_st g v_ str_ (fdiv_ g (ix_ g v_ v_) v_))
    (ss_cons (s_ret (mod_ g (int_ g B0 (ix_ g v_ v_)) v_))
    ss_nil)) ss_nil)
    (ss_cons (asg_ (r_ife (tgt_ g (len_ g B0 v_) r_int) (ix_ g v_ (mod_ g (int_ g B0 v_) (len_ g B0 v_))) r_int) (nm_ g))
    (ss_cons (asg_ (mod_ g (int_ g B0 (add_ g (add_ g (mul_ g (mod_ g (int_ g B0 v_) r_int) r_int) (mul_ g (ix_ g v_ str_) r_int)) r_int)) r_int) (nm_ g))
    (ss_cons (asg_ (mod_ g (int_ g B0 (add_ g (add_ g (mul_ g v_ v_) (mul_ g (ix_ g v_ str_) r_int)) r_int)) r_int) (nm_ g))
    (ss_cons (asg_ (mod_ g (int_ g B0 (add_ g (add_ g (mul_ g v_ v_) (mul_ g r_int v_)) r_int)) r_int) (nm_ g))
    (ss_cons (s_ret (mod_ g (int_ g B0 (fdiv_ g v_ r_int)) v_))
    ss_nil))))))))))
abbrev n__law_pick : List Str := ["_law_feed_here", "_law_things"]
theorem d__law_pick {cdv : Value} {A : Around} {outer : List PySem.Env} {s : Shared} {H : Hp} {E : XK} (T : Tp Z P w K mg base k Pf tb gt) (hr2 : Room (k + 2) (A.deeper (envOfC "_law_pick" (defScope (top 39)) s.heap.objs.size (Z.fa 26) cdv))) :
    RSs Z (fun cls d _ H => E cls d H) Pf u (cxOf (L2.CX P w) P w K mg base n__law_pick "_law_pick" (defScope (top 39)) (Z.fa 26) cdv A outer s H E) (defBody (top 39)) (KB.b_law_pick 25) := by
  have hr := hr2.mono (Nat.le_add_right k 2)
  have g : Gd Z (cxOf (L2.CX P w) P w K mg base n__law_pick "_law_pick" (defScope (top 39)) (Z.fa 26) cdv A outer s H E) := gd_of T hr (by decide +kernel)
  have B0 := T.bl
  have tk : Takes (cxOf (L2.CX P w) P w K mg base n__law_pick "_law_pick" (defScope (top 39)) (Z.fa 26) cdv A outer s H E) (fun cls d _ H => E cls d H) := takes_of rfl rfl rfl rfl
  have pw : PassesOwn (model P w) (cxOf (L2.CX P w) P w K mg base n__law_pick "_law_pick" (defScope (top 39)) (Z.fa 26) cdv A outer s H E).A (cxOf (L2.CX P w) P w K mg base n__law_pick "_law_pick" (defScope (top 39)) (Z.fa 26) cdv A outer s H E).env (cxOf (L2.CX P w) P w K mg base n__law_pick "_law_pick" (defScope (top 39)) (Z.fa 26) cdv A outer s H E).xe := passes_of rfl
  exact (ss_cons (s_ret (ix_ g v_ (call_ tk T hr 25 (acons_ v_ (acons_ (len_ g B0 v_) ra_nil)))))
    ss_nil)
abbrev n__law_letters : List Str := ["_law_feed_here", "_law_signs", "_law_lap"]
theorem d__law_letters {cdv : Value} {A : Around} {outer : List PySem.Env} {s : Shared} {H : Hp} {E : XK} (T : Tp Z P w K mg base k Pf tb gt) (hr2 : Room (k + 2) (A.deeper (envOfC "_law_letters" (defScope (top 40)) s.heap.objs.size (Z.fa 27) cdv))) :
    RSs Z (fun cls d _ H => E cls d H) Pf u (cxOf (L2.CX P w) P w K mg base n__law_letters "_law_letters" (defScope (top 40)) (Z.fa 27) cdv A outer s H E) (defBody (top 40)) (KB.b_law_letters 25 26) := by
  have hr := hr2.mono (Nat.le_add_right k 2)
  have g : Gd Z (cxOf (L2.CX P w) P w K mg base n__law_letters "_law_letters" (defScope (top 40)) (Z.fa 27) cdv A outer s H E) := gd_of T hr (by decide +kernel)
  have B0 := T.bl
  have tk : Takes (cxOf (L2.CX P w) P w K mg base n__law_letters "_law_letters" (defScope (top 40)) (Z.fa 27) cdv A outer s H E) (fun cls d _ H => E cls d H) := takes_of rfl rfl rfl rfl
  have pw : PassesOwn (model P w) (cxOf (L2.CX P w) P w K mg base n__law_letters "_law_letters" (defScope (top 40)) (Z.fa 27) cdv A outer s H E).A (cxOf (L2.CX P w) P w K mg base n__law_letters "_law_letters" (defScope (top 40)) (Z.fa 27) cdv A outer s H E).env (cxOf (L2.CX P w) P w K mg base n__law_letters "_law_letters" (defScope (top 40)) (Z.fa 27) cdv A outer s H E).xe := passes_of rfl
  exact (ss_cons (asg_ str_ (nm_ g))
    (ss_cons (s_if (teq_ g (call_ tk T hr 25 (acons_ v_ (acons_ r_int ra_nil))) r_int) (ss_cons (s_ret (tuple_ g B0 (call_ tk T hr 26 (acons_ v_ (acons_ (r_lst (acons_ str_ (acons_ str_ (acons_ str_ (acons_ str_ (acons_ str_ (acons_ str_ (acons_ v_ ra_nil)))))))) ra_nil)))))
    ss_nil) ss_nil)
    (ss_cons (s_ret (tuple_ g B0 (sset_ g B0 (lc_ [("_law_lap", 2)] g (rng1_ g B0 (add_ g r_int (call_ tk T hr 25 (acons_ v_ (acons_ r_int ra_nil))))) (fun _ _ _ _ _ => (nm_ (g).blk)) (fun _ _ _ _ _ => c_nil) (fun _ _ _ _ _ => (call_ takes_blk T hr 26 (acons_ v_ (acons_ v_ ra_nil))))))))
    ss_nil)))
abbrev n__law_piece : List Str := ["_law_feed_here", "_law_signs", "_law_most", "_law_lap"]
theorem d__law_piece {cdv : Value} {A : Around} {outer : List PySem.Env} {s : Shared} {H : Hp} {E : XK} (T : Tp Z P w K mg base k Pf tb gt) (hr2 : Room (k + 2) (A.deeper (envOfC "_law_piece" (defScope (top 41)) s.heap.objs.size (Z.fa 28) cdv))) :
    RSs Z (fun cls d _ H => E cls d H) Pf u (cxOf (L2.CX P w) P w K mg base n__law_piece "_law_piece" (defScope (top 41)) (Z.fa 28) cdv A outer s H E) (defBody (top 41)) (KB.b_law_piece 25 26) := by
  have hr := hr2.mono (Nat.le_add_right k 2)
  have g : Gd Z (cxOf (L2.CX P w) P w K mg base n__law_piece "_law_piece" (defScope (top 41)) (Z.fa 28) cdv A outer s H E) := gd_of T hr (by decide +kernel)
  have B0 := T.bl
  have tk : Takes (cxOf (L2.CX P w) P w K mg base n__law_piece "_law_piece" (defScope (top 41)) (Z.fa 28) cdv A outer s H E) (fun cls d _ H => E cls d H) := takes_of rfl rfl rfl rfl
  have pw : PassesOwn (model P w) (cxOf (L2.CX P w) P w K mg base n__law_piece "_law_piece" (defScope (top 41)) (Z.fa 28) cdv A outer s H E).A (cxOf (L2.CX P w) P w K mg base n__law_piece "_law_piece" (defScope (top 41)) (Z.fa 28) cdv A outer s H E).env (cxOf (L2.CX P w) P w K mg base n__law_piece "_law_piece" (defScope (top 41)) (Z.fa 28) cdv A outer s H E).xe := passes_of rfl
  exact (ss_cons (s_ret (join_ g (lc_ [("_law_lap", 3)] g (rng1_ g B0 (add_ g r_int (call_ tk T hr 25 (acons_ v_ (acons_ v_ ra_nil))))) (fun _ _ _ _ _ => (nm_ (g).blk)) (fun _ _ _ _ _ => c_nil) (fun _ _ _ _ _ => (call_ takes_blk T hr 26 (acons_ v_ (acons_ v_ ra_nil)))))))
    ss_nil)
abbrev n__law_rules : List Str := ["_law_feed_here", "_law_signs", "_law_many", "_law_most", "_law_pool", "_law_made", "_law_way", "_law_lap", "_law_turn", "_law_pair"]
theorem d__law_rules {cdv : Value} {A : Around} {outer : List PySem.Env} {s : Shared} {H : Hp} {E : XK} (T : Tp Z P w K mg base k Pf tb gt) (hr2 : Room (k + 2) (A.deeper (envOfC "_law_rules" (defScope (top 42)) s.heap.objs.size (Z.fa 29) cdv))) :
    RSs Z (fun cls d _ H => E cls d H) Pf u (cxOf (L2.CX P w) P w K mg base n__law_rules "_law_rules" (defScope (top 42)) (Z.fa 29) cdv A outer s H E) (defBody (top 42)) (KB.b_law_rules 25 28 26) := by
  have hr := hr2.mono (Nat.le_add_right k 2)
  have g : Gd Z (cxOf (L2.CX P w) P w K mg base n__law_rules "_law_rules" (defScope (top 42)) (Z.fa 29) cdv A outer s H E) := gd_of T hr (by decide +kernel)
  have B0 := T.bl
  have tk : Takes (cxOf (L2.CX P w) P w K mg base n__law_rules "_law_rules" (defScope (top 42)) (Z.fa 29) cdv A outer s H E) (fun cls d _ H => E cls d H) := takes_of rfl rfl rfl rfl
  have pw : PassesOwn (model P w) (cxOf (L2.CX P w) P w K mg base n__law_rules "_law_rules" (defScope (top 42)) (Z.fa 29) cdv A outer s H E).A (cxOf (L2.CX P w) P w K mg base n__law_rules "_law_rules" (defScope (top 42)) (Z.fa 29) cdv A outer s H E).env (cxOf (L2.CX P w) P w K mg base n__law_rules "_law_rules" (defScope (top 42)) (Z.fa 29) cdv A outer s H E).xe := passes_of rfl
  exact (ss_cons (par3_ g (acons_ (lof_ g B0 v_) (acons_ (r_newl ra_nil) (acons_ (call_ tk T hr 25 (acons_ v_ (acons_ r_int ra_nil))) ra_nil))))
    (ss_cons (for_ g pw (rng1_ g B0 v_) (nm_ g) (ss_cons (asg_ (r_key (acons_ (call_ tk T hr 26 (acons_ v_ (acons_ v_ ra_nil))) (acons_ (call_ tk T hr 26 (acons_ v_ (acons_ v_ ra_nil))) ra_nil))) (nm_ g))
    (ss_cons (s_if (tw_ (w_or (teq_ g v_ r_int) (w_one' (tw_ (w_and (teq_ g v_ r_int) (w_one (teq_ g (call_ tk T hr 25 (acons_ v_ (acons_ r_int ra_nil))) r_int))))))) (ss_cons (asg_ (r_key (acons_ (call_ tk T hr 28 (acons_ v_ (acons_ v_ (acons_ r_int ra_nil)))) (acons_ (call_ tk T hr 28 (acons_ v_ (acons_ v_ (acons_ r_int ra_nil)))) ra_nil))) (nm_ g))
    ss_nil) ss_nil)
    (ss_cons (s_if (tw_ (w_and (tle_ g (add_ g (len_ g B0 (ix_ g v_ r_int)) (len_ g B0 (ix_ g v_ r_int))) v_) (w_one (tnin_ g v_ v_)))) (ss_cons (app_ g v_ v_)
    (ss_cons (app_ g v_ (add_ g (ix_ g v_ r_int) (ix_ g v_ r_int)))
    ss_nil)) ss_nil)
    ss_nil))))
    (ss_cons (asg_ (call_ tk T hr 25 (acons_ v_ (acons_ r_int ra_nil))) (nm_ g))
    (ss_cons (s_ret (tuple_ g B0 (r_ife (teq_ g v_ r_int) v_ (r_ife (teq_ g v_ r_int) (r_back v_) (add_ g (r_sl g v_ (o_some (fdiv_ g (len_ g B0 v_) r_int)) o_none) (r_sl g v_ o_none (o_some (fdiv_ g (len_ g B0 v_) r_int))))))))
    ss_nil))))
abbrev n__law_triple : List Str := ["_law_feed_here", "_law_many", "_law_most", "_law_choice", "_law_signs"]
theorem d__law_triple {cdv : Value} {A : Around} {outer : List PySem.Env} {s : Shared} {H : Hp} {E : XK} (T : Tp Z P w K mg base k Pf tb gt) (hr2 : Room (k + 2) (A.deeper (envOfC "_law_triple" (defScope (top 43)) s.heap.objs.size (Z.fa 30) cdv))) :
    RSs Z (fun cls d _ H => E cls d H) Pf u (cxOf (L2.CX P w) P w K mg base n__law_triple "_law_triple" (defScope (top 43)) (Z.fa 30) cdv A outer s H E) (defBody (top 43)) (KB.b_law_triple 29 27 26) := by
  have hr := hr2.mono (Nat.le_add_right k 2)
  have g : Gd Z (cxOf (L2.CX P w) P w K mg base n__law_triple "_law_triple" (defScope (top 43)) (Z.fa 30) cdv A outer s H E) := gd_of T hr (by decide +kernel)
  have B0 := T.bl
  have tk : Takes (cxOf (L2.CX P w) P w K mg base n__law_triple "_law_triple" (defScope (top 43)) (Z.fa 30) cdv A outer s H E) (fun cls d _ H => E cls d H) := takes_of rfl rfl rfl rfl
  have pw : PassesOwn (model P w) (cxOf (L2.CX P w) P w K mg base n__law_triple "_law_triple" (defScope (top 43)) (Z.fa 30) cdv A outer s H E).A (cxOf (L2.CX P w) P w K mg base n__law_triple "_law_triple" (defScope (top 43)) (Z.fa 30) cdv A outer s H E).env (cxOf (L2.CX P w) P w K mg base n__law_triple "_law_triple" (defScope (top 43)) (Z.fa 30) cdv A outer s H E).xe := passes_of rfl
  exact (ss_cons (asg_ (call_ tk T hr 26 (acons_ v_ (acons_ (r_lst (acons_ str_ (acons_ str_ (acons_ str_ (acons_ str_ (acons_ str_ ra_nil)))))) ra_nil))) (nm_ g))
    (ss_cons (asg_ (call_ tk T hr 27 (acons_ v_ ra_nil)) (nm_ g))
    (ss_cons (s_ret (r_key (acons_ v_ (acons_ (call_ tk T hr 29 (acons_ v_ (acons_ v_ (acons_ v_ (acons_ v_ ra_nil))))) (acons_ v_ ra_nil)))))
    ss_nil)))
abbrev n__law_same : List Str := ["_law_told", "_law_due", "_law_k"]
theorem d__law_same {cdv : Value} {A : Around} {outer : List PySem.Env} {s : Shared} {H : Hp} {E : XK} (T : Tp Z P w K mg base k Pf tb gt) (hr2 : Room (k + 2) (A.deeper (envOfC "_law_same" (defScope (top 44)) s.heap.objs.size (Z.fa 31) cdv))) :
    RSs Z (fun cls d _ H => E cls d H) Pf u (cxOf (L2.CX P w) P w K mg base n__law_same "_law_same" (defScope (top 44)) (Z.fa 31) cdv A outer s H E) (defBody (top 44)) (KB.b_law_same 31) := by
  have hr := hr2.mono (Nat.le_add_right k 2)
  have g : Gd Z (cxOf (L2.CX P w) P w K mg base n__law_same "_law_same" (defScope (top 44)) (Z.fa 31) cdv A outer s H E) := gd_of T hr (by decide +kernel)
  have B0 := T.bl
  have tk : Takes (cxOf (L2.CX P w) P w K mg base n__law_same "_law_same" (defScope (top 44)) (Z.fa 31) cdv A outer s H E) (fun cls d _ H => E cls d H) := takes_of rfl rfl rfl rfl
  have pw : PassesOwn (model P w) (cxOf (L2.CX P w) P w K mg base n__law_same "_law_same" (defScope (top 44)) (Z.fa 31) cdv A outer s H E).A (cxOf (L2.CX P w) P w K mg base n__law_same "_law_same" (defScope (top 44)) (Z.fa 31) cdv A outer s H E).env (cxOf (L2.CX P w) P w K mg base n__law_same "_law_same" (defScope (top 44)) (Z.fa 31) cdv A outer s H E).xe := passes_of rfl
  exact (ss_cons (s_if (tv_ g (isa_ g B0 B0.tuple (ha := v_))) (ss_cons (s_if (tw_ (w_or (t_not (tv_ g (isa_ g B0 B0.tuple (ha := v_)))) (w_one' (tne_ g (len_ g B0 v_) (len_ g B0 v_))))) (ss_cons (s_ret r_bl)
    ss_nil) ss_nil)
    (ss_cons (s_ret (eq_ g (lc_ [("_law_k", 2)] g (rng1_ g B0 (len_ g B0 v_)) (fun _ _ _ _ _ => (nm_ (g).blk)) (fun _ _ _ _ _ => (c_one (t_not (tv_ (g).blk (call_ takes_blk T hr 31 (acons_ (ix_ (g).blk v_ v_) (acons_ (ix_ (g).blk v_ v_) ra_nil))))))) (fun _ _ _ _ _ => v_)) (r_lst ra_nil)))
    ss_nil)) ss_nil)
    (ss_cons (s_if (tis_ g v_ r_non) (ss_cons (s_ret (is_ g v_ r_non))
    ss_nil) ss_nil)
    (ss_cons (s_if (tv_ g (isa_ g B0 B0.bool (ha := v_))) (ss_cons (s_ret (r_and (isa_ g B0 B0.bool (ha := v_)) (r_one (eq_ g v_ v_))))
    ss_nil) ss_nil)
    (ss_cons (s_if (tv_ g (isa_ g B0 B0.str (ha := v_))) (ss_cons (s_ret (r_and (isa_ g B0 B0.str (ha := v_)) (r_one (eq_ g v_ v_))))
    ss_nil) ss_nil)
    (ss_cons (s_ret (r_and (isa_ g B0 B0.int (ha := v_)) (r_and (r_not g (isa_ g B0 B0.bool (ha := v_))) (r_one (eq_ g v_ v_)))))
    ss_nil)))))
abbrev n__law_no : List Str := ["_law_word"]
theorem d__law_no {cdv : Value} {A : Around} {outer : List PySem.Env} {s : Shared} {H : Hp} {E : XK} (T : Tp Z P w K mg base k Pf tb gt) (hr2 : Room (k + 2) (A.deeper (envOfC "_law_no" (defScope (top 46)) s.heap.objs.size (Z.fa 33) cdv))) :
    RSs Z (fun cls d _ H => E cls d H) Pf u (cxOf (L2.CX P w) P w K mg base n__law_no "_law_no" (defScope (top 46)) (Z.fa 33) cdv A outer s H E) (defBody (top 46)) KB.b_law_no := by
  have hr := hr2.mono (Nat.le_add_right k 2)
  have g : Gd Z (cxOf (L2.CX P w) P w K mg base n__law_no "_law_no" (defScope (top 46)) (Z.fa 33) cdv A outer s H E) := gd_of T hr (by decide +kernel)
  have B0 := T.bl
  have tk : Takes (cxOf (L2.CX P w) P w K mg base n__law_no "_law_no" (defScope (top 46)) (Z.fa 33) cdv A outer s H E) (fun cls d _ H => E cls d H) := takes_of rfl rfl rfl rfl
  have pw : PassesOwn (model P w) (cxOf (L2.CX P w) P w K mg base n__law_no "_law_no" (defScope (top 46)) (Z.fa 33) cdv A outer s H E).A (cxOf (L2.CX P w) P w K mg base n__law_no "_law_no" (defScope (top 46)) (Z.fa 33) cdv A outer s H E).env (cxOf (L2.CX P w) P w K mg base n__law_no "_law_no" (defScope (top 46)) (Z.fa 33) cdv A outer s H E).xe := passes_of rfl
  exact (ss_cons (s_ret (r_key (acons_ str_ (acons_ v_ (acons_ (r_un r_int) ra_nil)))))
    ss_nil)
abbrev n__law_new_rule : List Str := ["_law_feed_here", "_law_triple_here", "_law_signs", "_law_pairs", "_law_way", "_law_sign"]
theorem d__law_new_rule {cdv : Value} {A : Around} {outer : List PySem.Env} {s : Shared} {H : Hp} {E : XK} (T : Tp Z P w K mg base k Pf tb gt) (hr2 : Room (k + 2) (A.deeper (envOfC "_law_new_rule" (defScope (top 47)) s.heap.objs.size (Z.fa 34) cdv))) :
    RSs Z (fun cls d _ H => E cls d H) Pf u (cxOf (L2.CX P w) P w K mg base n__law_new_rule "_law_new_rule" (defScope (top 47)) (Z.fa 34) cdv A outer s H E) (defBody (top 47)) (KB.b_law_new_rule 28 26 25) := by
  have hr := hr2.mono (Nat.le_add_right k 2)
  have g : Gd Z (cxOf (L2.CX P w) P w K mg base n__law_new_rule "_law_new_rule" (defScope (top 47)) (Z.fa 34) cdv A outer s H E) := gd_of T hr (by decide +kernel)
  have B0 := T.bl
  have tk : Takes (cxOf (L2.CX P w) P w K mg base n__law_new_rule "_law_new_rule" (defScope (top 47)) (Z.fa 34) cdv A outer s H E) (fun cls d _ H => E cls d H) := takes_of rfl rfl rfl rfl
  have pw : PassesOwn (model P w) (cxOf (L2.CX P w) P w K mg base n__law_new_rule "_law_new_rule" (defScope (top 47)) (Z.fa 34) cdv A outer s H E).A (cxOf (L2.CX P w) P w K mg base n__law_new_rule "_law_new_rule" (defScope (top 47)) (Z.fa 34) cdv A outer s H E).env (cxOf (L2.CX P w) P w K mg base n__law_new_rule "_law_new_rule" (defScope (top 47)) (Z.fa 34) cdv A outer s H E).xe := passes_of rfl
  exact (ss_cons (asg_ (r_key (acons_ (ix_ g v_ r_int) (acons_ (ix_ g v_ r_int) ra_nil))) (tp_ g (gcons_ (nm_ g) (gcons_ (nm_ g) gs_nil))))
    (ss_cons (asg_ (call_ tk T hr 25 (acons_ v_ (acons_ r_int ra_nil))) (nm_ g))
    (ss_cons (s_if (tw_ (w_and (teq_ g v_ r_int) (w_one (tgt_ g (len_ g B0 v_) r_int)))) (ss_cons (s_ret (call_ tk T hr 26 (acons_ v_ (acons_ v_ ra_nil))))
    ss_nil) ss_nil)
    (ss_cons (s_if (teq_ g v_ r_int) (ss_cons (s_ret (r_key (acons_ (ix_ g v_ r_int) (acons_ (ix_ g (lc_ [("_law_sign", 5)] g (i_seq g str_) (fun _ _ _ _ _ => (nm_ (g).blk)) (fun _ _ _ _ _ => (c_one (tnin_ (g).blk v_ v_))) (fun _ _ _ _ _ => v_)) r_int) ra_nil))))
    ss_nil) ss_nil)
    (ss_cons (s_ret (r_key (acons_ (call_ tk T hr 28 (acons_ v_ (acons_ v_ (acons_ r_int ra_nil)))) (acons_ (call_ tk T hr 28 (acons_ v_ (acons_ v_ (acons_ r_int ra_nil)))) ra_nil))))
    ss_nil)))))
abbrev n__law_put : List Str := ["_law_triple_here", "_law_pair", "_law_k", "_law_signs", "_law_pairs", "_law_choice", "_law_sign"]
theorem d__law_put {cdv : Value} {A : Around} {outer : List PySem.Env} {s : Shared} {H : Hp} {E : XK} (T : Tp Z P w K mg base k Pf tb gt) (hr2 : Room (k + 2) (A.deeper (envOfC "_law_put" (defScope (top 48)) s.heap.objs.size (Z.fa 35) cdv))) :
    RSs Z (fun cls d _ H => E cls d H) Pf u (cxOf (L2.CX P w) P w K mg base n__law_put "_law_put" (defScope (top 48)) (Z.fa 35) cdv A outer s H E) (defBody (top 48)) (KB.b_law_put 33) := by
  have hr := hr2.mono (Nat.le_add_right k 2)
  have g : Gd Z (cxOf (L2.CX P w) P w K mg base n__law_put "_law_put" (defScope (top 48)) (Z.fa 35) cdv A outer s H E) := gd_of T hr (by decide +kernel)
  have B0 := T.bl
  have tk : Takes (cxOf (L2.CX P w) P w K mg base n__law_put "_law_put" (defScope (top 48)) (Z.fa 35) cdv A outer s H E) (fun cls d _ H => E cls d H) := takes_of rfl rfl rfl rfl
  have pw : PassesOwn (model P w) (cxOf (L2.CX P w) P w K mg base n__law_put "_law_put" (defScope (top 48)) (Z.fa 35) cdv A outer s H E).A (cxOf (L2.CX P w) P w K mg base n__law_put "_law_put" (defScope (top 48)) (Z.fa 35) cdv A outer s H E).env (cxOf (L2.CX P w) P w K mg base n__law_put "_law_put" (defScope (top 48)) (Z.fa 35) cdv A outer s H E).xe := passes_of rfl
  exact (ss_cons (asg_ v_ (tp_ g (gcons_ (nm_ g) (gcons_ (nm_ g) (gcons_ (nm_ g) gs_nil)))))
    (ss_cons (s_if (tw_ (w_or (tne_ g (lc_ [("_law_sign", 6)] g (i_seq g (add_ g (ix_ g v_ r_int) (ix_ g v_ r_int))) (fun _ _ _ _ _ => (nm_ (g).blk)) (fun _ _ _ _ _ => (c_one (tnin_ (g).blk v_ v_))) (fun _ _ _ _ _ => v_)) (r_lst ra_nil)) (w_one' (tin_ g v_ v_)))) (ss_cons (s_ret (call_ tk T hr 33 (acons_ str_ ra_nil)))
    ss_nil) ss_nil)
    (ss_cons (s_if (tgt_ g v_ (len_ g B0 v_)) (ss_cons (s_ret (call_ tk T hr 33 (acons_ str_ ra_nil)))
    ss_nil) ss_nil)
    (ss_cons (s_ret (r_key (acons_ str_ (acons_ (r_key (acons_ v_ (acons_ (add_ g (add_ g (r_sl g v_ o_none (o_some v_)) (r_key (acons_ v_ ra_nil))) (r_sl g v_ (o_some v_) o_none)) (acons_ v_ ra_nil)))) ra_nil))))
    ss_nil))))
abbrev n__law_changed : List Str := ["_law_feed_here", "_law_triple_here", "_law_signs", "_law_pairs", "_law_choice", "_law_way", "_law_k", "_law_due", "_law_pair", "_law_late", "_law_sign"]
theorem d__law_changed {cdv : Value} {A : Around} {outer : List PySem.Env} {s : Shared} {H : Hp} {E : XK} (T : Tp Z P w K mg base k Pf tb gt) (HD : HeardD Z K mg "_law_heard" 1 [103, 97, 118, 101] [78, 111, 116, 85, 115, 97, 98, 108, 101] "word" "at") (hPT : Pf.T 32 = heard 1 [103, 97, 118, 101] [78, 111, 116, 85, 115, 97, 98, 108, 101]) (TL : TpL Z mg base cdv "_law_changed.<locals>.") (TK_with_rule : TpK Z P w K mg base k Pf 15 "with_rule" ["table", "rule", "rank"] 2 ["rank"] [.non]) (hr2 : Room (k + 2) (A.deeper (envOfC "_law_changed" (defScope (top 49)) s.heap.objs.size (Z.fa 36) cdv))) :
    RSs Z (fun cls d _ H => E cls d H) Pf u (cxOf (L2.CX P w) P w K mg base n__law_changed "_law_changed" (defScope (top 49)) (Z.fa 36) cdv A outer s H E) (defBody (top 49)) (KB.b_law_changed 20 32 33 19 25 26 18 17 16 35 15 34) := by
  have hr := hr2.mono (Nat.le_add_right k 2)
  have g : Gd Z (cxOf (L2.CX P w) P w K mg base n__law_changed "_law_changed" (defScope (top 49)) (Z.fa 36) cdv A outer s H E) := gd_of T hr (by decide +kernel)
  have B0 := T.bl
  have tk : Takes (cxOf (L2.CX P w) P w K mg base n__law_changed "_law_changed" (defScope (top 49)) (Z.fa 36) cdv A outer s H E) (fun cls d _ H => E cls d H) := takes_of rfl rfl rfl rfl
  have pw : PassesOwn (model P w) (cxOf (L2.CX P w) P w K mg base n__law_changed "_law_changed" (defScope (top 49)) (Z.fa 36) cdv A outer s H E).A (cxOf (L2.CX P w) P w K mg base n__law_changed "_law_changed" (defScope (top 49)) (Z.fa 36) cdv A outer s H E).env (cxOf (L2.CX P w) P w K mg base n__law_changed "_law_changed" (defScope (top 49)) (Z.fa 36) cdv A outer s H E).xe := passes_of rfl
  exact (ss_cons (asg_ v_ (tp_ g (gcons_ (nm_ g) (gcons_ (nm_ g) (gcons_ (nm_ g) gs_nil)))))
    (ss_cons (asg_ (r_key (acons_ (call_ tk T hr 25 (acons_ v_ (acons_ r_int ra_nil))) (acons_ (call_ tk T hr 25 (acons_ v_ (acons_ (add_ g (len_ g B0 v_) r_int) ra_nil))) ra_nil))) (tp_ g (gcons_ (nm_ g) (gcons_ (nm_ g) gs_nil))))
    (ss_cons (s_if (tlt_ g v_ r_int) (ss_cons (asg_ (call_ tk T hr 34 (acons_ v_ (acons_ v_ ra_nil))) (nm_ g))
    (ss_cons (s_ret (r_key (acons_ (told_ g 32 HD hPT TL hr2 (fun _ _ _ _ _ _ _ hrL => (callk_ tk_lam 15 TK_with_rule hrL (acons_ v_ (acons_ v_ ra_nil)) (rk_cons v_ rk_nil)))) (acons_ (call_ tk T hr 35 (acons_ v_ (acons_ v_ (acons_ v_ ra_nil)))) ra_nil))))
    ss_nil)) ss_nil)
    (ss_cons (s_if (teq_ g v_ r_int) (ss_cons (asg_ (call_ tk T hr 33 (acons_ str_ ra_nil)) (nm_ g))
    (ss_cons (s_if (tlt_ g v_ (len_ g B0 v_)) (ss_cons (asg_ (r_key (acons_ str_ (acons_ (r_key (acons_ v_ (acons_ (add_ g (r_sl g v_ o_none (o_some v_)) (r_sl g v_ (o_some (add_ g v_ r_int)) o_none)) (acons_ v_ ra_nil)))) ra_nil))) (nm_ g))
    ss_nil) ss_nil)
    (ss_cons (s_ret (r_key (acons_ (told_ g 32 HD hPT TL hr2 (fun _ _ _ _ _ _ _ hrL => (call_ tk_lam T hrL 16 (acons_ v_ (acons_ v_ ra_nil))))) (acons_ v_ ra_nil))))
    ss_nil))) ss_nil)
    (ss_cons (s_if (teq_ g v_ r_int) (ss_cons (asg_ (add_ g (r_sl g v_ o_none (o_some v_)) (r_sl g v_ (o_some (add_ g v_ r_int)) (o_some (add_ g v_ r_int)))) (nm_ g))
    (ss_cons (asg_ (add_ g (add_ g v_ (r_sl g v_ (o_some v_) (o_some (add_ g v_ r_int)))) (r_sl g v_ (o_some (add_ g v_ r_int)) o_none)) (nm_ g))
    (ss_cons (asg_ (call_ tk T hr 33 (acons_ str_ ra_nil)) (nm_ g))
    (ss_cons (s_if (tlt_ g (add_ g v_ r_int) (len_ g B0 v_)) (ss_cons (asg_ (r_key (acons_ str_ (acons_ (r_key (acons_ v_ (acons_ v_ (acons_ v_ ra_nil)))) ra_nil))) (nm_ g))
    ss_nil) ss_nil)
    (ss_cons (s_ret (r_key (acons_ (told_ g 32 HD hPT TL hr2 (fun _ _ _ _ _ _ _ hrL => (call_ tk_lam T hrL 17 (acons_ v_ (acons_ v_ ra_nil))))) (acons_ v_ ra_nil))))
    ss_nil))))) ss_nil)
    (ss_cons (s_if (teq_ g v_ r_int) (ss_cons (asg_ (call_ tk T hr 26 (acons_ v_ (acons_ (r_lst (acons_ str_ (acons_ str_ (acons_ str_ (acons_ str_ (acons_ str_ (acons_ str_ ra_nil))))))) ra_nil))) (nm_ g))
    (ss_cons (asg_ (r_ife (tne_ g v_ str_) (r_key (acons_ str_ (acons_ (r_key (acons_ v_ (acons_ v_ (acons_ v_ ra_nil)))) ra_nil))) (call_ tk T hr 33 (acons_ str_ ra_nil))) (nm_ g))
    (ss_cons (s_ret (r_key (acons_ (told_ g 32 HD hPT TL hr2 (fun _ _ _ _ _ _ _ hrL => (call_ tk_lam T hrL 18 (acons_ v_ (acons_ v_ ra_nil))))) (acons_ v_ ra_nil))))
    ss_nil))) ss_nil)
    (ss_cons (s_if (teq_ g v_ r_int) (ss_cons (asg_ (call_ tk T hr 26 (acons_ v_ (acons_ str_ ra_nil))) (nm_ g))
    (ss_cons (asg_ (tuple_ g B0 (sset_ g B0 (add_ g (list_ g B0 v_) (r_lst (acons_ v_ ra_nil))))) (nm_ g))
    (ss_cons (asg_ (r_ife (tgt_ g (call_ tk T hr 25 (acons_ v_ (acons_ r_int ra_nil))) r_int) v_ (r_sl g v_ (o_some r_int) o_none)) (nm_ g))
    (ss_cons (asg_ (r_key (acons_ str_ (acons_ (r_key (acons_ v_ (acons_ v_ (acons_ v_ ra_nil)))) ra_nil))) (nm_ g))
    (ss_cons (s_if (tw_ (w_or (teq_ g (len_ g B0 v_) r_int) (w_one' (tne_ g (lc_ [("_law_sign", 10)] g (i_seq g v_) (fun _ _ _ _ _ => (nm_ (g).blk)) (fun _ _ _ _ _ => (c_one (tnin_ (g).blk v_ v_))) (fun _ _ _ _ _ => v_)) (r_lst ra_nil))))) (ss_cons (asg_ (call_ tk T hr 33 (acons_ str_ ra_nil)) (nm_ g))
    ss_nil) ss_nil)
    (ss_cons (s_ret (r_key (acons_ (told_ g 32 HD hPT TL hr2 (fun _ _ _ _ _ _ _ hrL => (call_ tk_lam T hrL 19 (acons_ v_ (acons_ v_ ra_nil))))) (acons_ v_ ra_nil))))
    ss_nil)))))) ss_nil)
    (ss_cons (asg_ (call_ tk T hr 33 (acons_ str_ ra_nil)) (nm_ g))
    (ss_cons (s_if (tle_ g v_ (len_ g B0 v_)) (ss_cons (asg_ (r_key (acons_ str_ (acons_ (r_key (acons_ v_ (acons_ (r_sl g v_ o_none (o_some v_)) (acons_ v_ ra_nil)))) ra_nil))) (nm_ g))
    ss_nil) ss_nil)
    (ss_cons (s_ret (r_key (acons_ (told_ g 32 HD hPT TL hr2 (fun _ _ _ _ _ _ _ hrL => (call_ tk_lam T hrL 20 (acons_ v_ (acons_ v_ ra_nil))))) (acons_ v_ ra_nil))))
    ss_nil))))))))))
abbrev n__law_undone : List Str := ["_law_triple_here", "_law_k", "_law_pairs", "_law_gone", "_law_last", "_law_late", "_law_place", "_law_step"]
theorem d__law_undone {cdv : Value} {A : Around} {outer : List PySem.Env} {s : Shared} {H : Hp} {E : XK} (T : Tp Z P w K mg base k Pf tb gt) (TK_with_rule : TpK Z P w K mg base k Pf 15 "with_rule" ["table", "rule", "rank"] 2 ["rank"] [.non]) (hr2 : Room (k + 2) (A.deeper (envOfC "_law_undone" (defScope (top 50)) s.heap.objs.size (Z.fa 37) cdv))) :
    RSs Z (fun cls d _ H => E cls d H) Pf u (cxOf (L2.CX P w) P w K mg base n__law_undone "_law_undone" (defScope (top 50)) (Z.fa 37) cdv A outer s H E) (defBody (top 50)) (KB.b_law_undone 31 17 16 15) := by
  have hr := hr2.mono (Nat.le_add_right k 2)
  have g : Gd Z (cxOf (L2.CX P w) P w K mg base n__law_undone "_law_undone" (defScope (top 50)) (Z.fa 37) cdv A outer s H E) := gd_of T hr (by decide +kernel)
  have B0 := T.bl
  have tk : Takes (cxOf (L2.CX P w) P w K mg base n__law_undone "_law_undone" (defScope (top 50)) (Z.fa 37) cdv A outer s H E) (fun cls d _ H => E cls d H) := takes_of rfl rfl rfl rfl
  have pw : PassesOwn (model P w) (cxOf (L2.CX P w) P w K mg base n__law_undone "_law_undone" (defScope (top 50)) (Z.fa 37) cdv A outer s H E).A (cxOf (L2.CX P w) P w K mg base n__law_undone "_law_undone" (defScope (top 50)) (Z.fa 37) cdv A outer s H E).env (cxOf (L2.CX P w) P w K mg base n__law_undone "_law_undone" (defScope (top 50)) (Z.fa 37) cdv A outer s H E).xe := passes_of rfl
  exact (ss_cons (asg_ (ix_ g v_ r_int) (nm_ g))
    (ss_cons (asg_ (call_ tk T hr 16 (acons_ v_ (acons_ v_ ra_nil))) (nm_ g))
    (ss_cons (s_if (t_not (tv_ g (call_ tk T hr 31 (acons_ (callk_ tk 15 TK_with_rule hr (acons_ v_ (acons_ (ix_ g v_ v_) ra_nil)) (rk_cons v_ rk_nil)) (acons_ v_ ra_nil))))) (ss_cons (s_ret r_bl)
    ss_nil) ss_nil)
    (ss_cons (asg_ (calld_ tk 15 TK_with_rule hr (acons_ v_ (acons_ (ix_ g v_ v_) ra_nil))) (nm_ g))
    (ss_cons (s_if (t_not (tv_ g (call_ tk T hr 31 (acons_ (call_ tk T hr 16 (acons_ v_ (acons_ (sub_ g (len_ g B0 v_) r_int) ra_nil))) (acons_ v_ ra_nil))))) (ss_cons (s_ret r_bl)
    ss_nil) ss_nil)
    (ss_cons (asg_ v_ (nm_ g))
    (ss_cons (for_ g pw (rng2_ g B0 v_ (sub_ g (len_ g B0 v_) r_int)) (nm_ g) (ss_cons (asg_ (call_ tk T hr 17 (acons_ v_ (acons_ v_ ra_nil))) (nm_ g))
    (ss_cons (s_if (t_not (tv_ g (call_ tk T hr 31 (acons_ (call_ tk T hr 17 (acons_ v_ (acons_ v_ ra_nil))) (acons_ v_ ra_nil))))) (ss_cons (s_ret r_bl)
    ss_nil) ss_nil)
    (ss_cons (asg_ v_ (nm_ g))
    ss_nil))))
    (ss_cons (s_ret (call_ tk T hr 31 (acons_ v_ (acons_ v_ ra_nil))))
    ss_nil))))))))
abbrev n__law_filled : List Str := ["_law_triple_here", "_law_k", "_law_late", "_law_pair"]
theorem d__law_filled {cdv : Value} {A : Around} {outer : List PySem.Env} {s : Shared} {H : Hp} {E : XK} (T : Tp Z P w K mg base k Pf tb gt) (TK_with_rule : TpK Z P w K mg base k Pf 15 "with_rule" ["table", "rule", "rank"] 2 ["rank"] [.non]) (hr2 : Room (k + 2) (A.deeper (envOfC "_law_filled" (defScope (top 51)) s.heap.objs.size (Z.fa 38) cdv))) :
    RSs Z (fun cls d _ H => E cls d H) Pf u (cxOf (L2.CX P w) P w K mg base n__law_filled "_law_filled" (defScope (top 51)) (Z.fa 38) cdv A outer s H E) (defBody (top 51)) (KB.b_law_filled 31 20 15) := by
  have hr := hr2.mono (Nat.le_add_right k 2)
  have g : Gd Z (cxOf (L2.CX P w) P w K mg base n__law_filled "_law_filled" (defScope (top 51)) (Z.fa 38) cdv A outer s H E) := gd_of T hr (by decide +kernel)
  have B0 := T.bl
  have tk : Takes (cxOf (L2.CX P w) P w K mg base n__law_filled "_law_filled" (defScope (top 51)) (Z.fa 38) cdv A outer s H E) (fun cls d _ H => E cls d H) := takes_of rfl rfl rfl rfl
  have pw : PassesOwn (model P w) (cxOf (L2.CX P w) P w K mg base n__law_filled "_law_filled" (defScope (top 51)) (Z.fa 38) cdv A outer s H E).A (cxOf (L2.CX P w) P w K mg base n__law_filled "_law_filled" (defScope (top 51)) (Z.fa 38) cdv A outer s H E).env (cxOf (L2.CX P w) P w K mg base n__law_filled "_law_filled" (defScope (top 51)) (Z.fa 38) cdv A outer s H E).xe := passes_of rfl
  exact (ss_cons (asg_ (call_ tk T hr 20 (acons_ v_ (acons_ v_ ra_nil))) (nm_ g))
    (ss_cons (s_if (t_not (tv_ g (call_ tk T hr 31 (acons_ (ix_ g v_ r_int) (acons_ (r_sl g (ix_ g v_ r_int) o_none (o_some v_)) ra_nil))))) (ss_cons (s_ret r_bl)
    ss_nil) ss_nil)
    (ss_cons (for_ g pw (i_seq g (r_sl g (ix_ g v_ r_int) (o_some v_) o_none)) (nm_ g) (ss_cons (asg_ (calld_ tk 15 TK_with_rule hr (acons_ v_ (acons_ v_ ra_nil))) (nm_ g))
    ss_nil))
    (ss_cons (s_ret (r_and (call_ tk T hr 31 (acons_ v_ (acons_ v_ ra_nil))) (r_one (call_ tk T hr 31 (acons_ (call_ tk T hr 20 (acons_ v_ (acons_ (len_ g B0 (ix_ g v_ r_int)) ra_nil))) (acons_ v_ ra_nil))))))
    ss_nil))))
abbrev n__law_through : List Str := ["_law_triple_here", "_law_pair", "_law_k", "_law_signs", "_law_late", "_law_names", "_law_word", "_law_other", "_law_turned", "_law_sign", "_law_m"]
theorem d__law_through {cdv : Value} {A : Around} {outer : List PySem.Env} {s : Shared} {H : Hp} {E : XK} (T : Tp Z P w K mg base k Pf tb gt) (TK_with_rule : TpK Z P w K mg base k Pf 15 "with_rule" ["table", "rule", "rank"] 2 ["rank"] [.non]) (hr2 : Room (k + 2) (A.deeper (envOfC "_law_through" (defScope (top 52)) s.heap.objs.size (Z.fa 39) cdv))) :
    RSs Z (fun cls d _ H => E cls d H) Pf u (cxOf (L2.CX P w) P w K mg base n__law_through "_law_through" (defScope (top 52)) (Z.fa 39) cdv A outer s H E) (defBody (top 52)) (KB.b_law_through 23 15 31 22) := by
  have hr := hr2.mono (Nat.le_add_right k 2)
  have g : Gd Z (cxOf (L2.CX P w) P w K mg base n__law_through "_law_through" (defScope (top 52)) (Z.fa 39) cdv A outer s H E) := gd_of T hr (by decide +kernel)
  have B0 := T.bl
  have tk : Takes (cxOf (L2.CX P w) P w K mg base n__law_through "_law_through" (defScope (top 52)) (Z.fa 39) cdv A outer s H E) (fun cls d _ H => E cls d H) := takes_of rfl rfl rfl rfl
  have pw : PassesOwn (model P w) (cxOf (L2.CX P w) P w K mg base n__law_through "_law_through" (defScope (top 52)) (Z.fa 39) cdv A outer s H E).A (cxOf (L2.CX P w) P w K mg base n__law_through "_law_through" (defScope (top 52)) (Z.fa 39) cdv A outer s H E).env (cxOf (L2.CX P w) P w K mg base n__law_through "_law_through" (defScope (top 52)) (Z.fa 39) cdv A outer s H E).xe := passes_of rfl
  exact (ss_cons (asg_ (callk_ tk 15 TK_with_rule hr (acons_ v_ (acons_ v_ ra_nil)) (rk_cons v_ rk_nil)) (nm_ g))
    (ss_cons (slc_ [("_law_sign", 9)] g (i_seq g (add_ g (ix_ g v_ r_int) (ix_ g v_ r_int))) (fun _ _ _ _ _ => (nm_ (g).blk)) (fun _ _ _ _ _ => c_nil) (fun _ _ _ _ _ => (tix_ (g).blk (ix_ (g).blk v_ r_int) v_)))
    (ss_cons (asg_ (join_ g (lc_ [("_law_m", 10)] g (i_seq g v_) (fun _ _ _ _ _ => (nm_ (g).blk)) (fun _ _ _ _ _ => c_nil) (fun _ _ _ _ _ => (ix_ (g).blk v_ v_)))) (nm_ g))
    (ss_cons (asg_ (r_key (acons_ (r_sl g v_ o_none (o_some (len_ g B0 (ix_ g v_ r_int)))) (acons_ (r_sl g v_ (o_some (len_ g B0 (ix_ g v_ r_int))) o_none) ra_nil))) (nm_ g))
    (ss_cons (s_if (t_not (tv_ g (call_ tk T hr 31 (acons_ (call_ tk T hr 22 (acons_ v_ (acons_ v_ ra_nil))) (acons_ (callk_ tk 15 TK_with_rule hr (acons_ (call_ tk T hr 22 (acons_ v_ (acons_ v_ ra_nil))) (acons_ v_ ra_nil)) (rk_cons v_ rk_nil)) ra_nil))))) (ss_cons (s_ret r_bl)
    ss_nil) ss_nil)
    (ss_cons (s_if (teq_ g (ix_ g v_ r_int) str_) (ss_cons (s_ret r_bl)
    ss_nil) ss_nil)
    (ss_cons (asg_ (r_key (acons_ (r_back (ix_ g v_ r_int)) (acons_ (r_back (ix_ g v_ r_int)) ra_nil))) (nm_ g))
    (ss_cons (s_ret (call_ tk T hr 31 (acons_ (call_ tk T hr 23 (acons_ v_ ra_nil)) (acons_ (callk_ tk 15 TK_with_rule hr (acons_ (call_ tk T hr 23 (acons_ v_ ra_nil)) (acons_ v_ ra_nil)) (rk_cons v_ rk_nil)) ra_nil))))
    ss_nil))))))))
abbrev n__law_back : List Str := ["_law_feed_here", "_law_triple_here", "_law_many", "_law_late", "_law_pair", "_law_k"]
theorem d__law_back {cdv : Value} {A : Around} {outer : List PySem.Env} {s : Shared} {H : Hp} {E : XK} (T : Tp Z P w K mg base k Pf tb gt) (TK_with_rule : TpK Z P w K mg base k Pf 15 "with_rule" ["table", "rule", "rank"] 2 ["rank"] [.non]) (hr2 : Room (k + 2) (A.deeper (envOfC "_law_back" (defScope (top 53)) s.heap.objs.size (Z.fa 40) cdv))) :
    RSs Z (fun cls d _ H => E cls d H) Pf u (cxOf (L2.CX P w) P w K mg base n__law_back "_law_back" (defScope (top 53)) (Z.fa 40) cdv A outer s H E) (defBody (top 53)) (KB.b_law_back 25 37 35 39 15 16 31 34 18 26 14 38) := by
  have hr := hr2.mono (Nat.le_add_right k 2)
  have g : Gd Z (cxOf (L2.CX P w) P w K mg base n__law_back "_law_back" (defScope (top 53)) (Z.fa 40) cdv A outer s H E) := gd_of T hr (by decide +kernel)
  have B0 := T.bl
  have tk : Takes (cxOf (L2.CX P w) P w K mg base n__law_back "_law_back" (defScope (top 53)) (Z.fa 40) cdv A outer s H E) (fun cls d _ H => E cls d H) := takes_of rfl rfl rfl rfl
  have pw : PassesOwn (model P w) (cxOf (L2.CX P w) P w K mg base n__law_back "_law_back" (defScope (top 53)) (Z.fa 40) cdv A outer s H E).A (cxOf (L2.CX P w) P w K mg base n__law_back "_law_back" (defScope (top 53)) (Z.fa 40) cdv A outer s H E).env (cxOf (L2.CX P w) P w K mg base n__law_back "_law_back" (defScope (top 53)) (Z.fa 40) cdv A outer s H E).xe := passes_of rfl
  exact (ss_cons (asg_ (len_ g B0 (ix_ g v_ r_int)) (nm_ g))
    (ss_cons (s_if (tw_ (w_or (t_not (tv_ g (call_ tk T hr 31 (acons_ (call_ tk T hr 14 (acons_ v_ ra_nil)) (acons_ v_ ra_nil))))) (w_one' (t_not (tv_ g (call_ tk T hr 38 (acons_ v_ (acons_ (call_ tk T hr 25 (acons_ v_ (acons_ (add_ g v_ r_int) ra_nil))) ra_nil)))))))) (ss_cons (s_ret r_bl)
    ss_nil) ss_nil)
    (ss_cons (asg_ (call_ tk T hr 18 (acons_ v_ (acons_ (call_ tk T hr 26 (acons_ v_ (acons_ (r_lst (acons_ str_ (acons_ str_ (acons_ str_ ra_nil)))) ra_nil))) ra_nil))) (nm_ g))
    (ss_cons (s_if (t_not (tv_ g (call_ tk T hr 31 (acons_ (call_ tk T hr 18 (acons_ v_ (acons_ (ix_ g v_ r_int) ra_nil))) (acons_ v_ ra_nil))))) (ss_cons (s_ret r_bl)
    ss_nil) ss_nil)
    (ss_cons (par2_ g (acons_ (call_ tk T hr 34 (acons_ v_ (acons_ v_ ra_nil))) (acons_ (call_ tk T hr 25 (acons_ v_ (acons_ (add_ g v_ r_int) ra_nil))) ra_nil)))
    (ss_cons (s_if (teq_ g (ix_ g (call_ tk T hr 35 (acons_ v_ (acons_ v_ (acons_ v_ ra_nil)))) r_int) str_) (ss_cons (s_if (t_not (tv_ g (call_ tk T hr 31 (acons_ (call_ tk T hr 16 (acons_ (callk_ tk 15 TK_with_rule hr (acons_ v_ (acons_ v_ ra_nil)) (rk_cons v_ rk_nil)) (acons_ v_ ra_nil))) (acons_ v_ ra_nil))))) (ss_cons (s_ret r_bl)
    ss_nil) ss_nil)
    (ss_cons (s_if (t_not (tv_ g (call_ tk T hr 39 (acons_ v_ (acons_ v_ (acons_ v_ (acons_ (add_ g (r_sl g (ix_ g v_ r_int) (o_some r_int) o_none) (r_sl g (ix_ g v_ r_int) o_none (o_some r_int))) ra_nil))))))) (ss_cons (s_ret r_bl)
    ss_nil) ss_nil)
    ss_nil)) ss_nil)
    (ss_cons (s_ret (r_or (eq_ g v_ r_int) (r_one (call_ tk T hr 37 (acons_ v_ (acons_ (call_ tk T hr 25 (acons_ v_ (acons_ v_ ra_nil))) ra_nil))))))
    ss_nil)))))))
abbrev n_law : List Str := ["_law_script", "_law_feed_here", "_law_triple_here", "_law_lap", "_law_told", "_law_due"]
theorem d_law {cdv : Value} {A : Around} {outer : List PySem.Env} {s : Shared} {H : Hp} {E : XK} (T : Tp Z P w K mg base k Pf tb gt) (hr2 : Room (k + 2) (A.deeper (envOfC "law" (defScope (top 54)) s.heap.objs.size (Z.fa 41) cdv))) :
    RSs Z (fun cls d _ H => E cls d H) Pf u (cxOf (L2.CX P w) P w K mg base n_law "law" (defScope (top 54)) (Z.fa 41) cdv A outer s H E) (defBody (top 54)) (KB.b_law 40 25 31 36 30 24) := by
  have hr := hr2.mono (Nat.le_add_right k 2)
  have g : Gd Z (cxOf (L2.CX P w) P w K mg base n_law "law" (defScope (top 54)) (Z.fa 41) cdv A outer s H E) := gd_of T hr (by decide +kernel)
  have B0 := T.bl
  have tk : Takes (cxOf (L2.CX P w) P w K mg base n_law "law" (defScope (top 54)) (Z.fa 41) cdv A outer s H E) (fun cls d _ H => E cls d H) := takes_of rfl rfl rfl rfl
  have pw : PassesOwn (model P w) (cxOf (L2.CX P w) P w K mg base n_law "law" (defScope (top 54)) (Z.fa 41) cdv A outer s H E).A (cxOf (L2.CX P w) P w K mg base n_law "law" (defScope (top 54)) (Z.fa 41) cdv A outer s H E).env (cxOf (L2.CX P w) P w K mg base n_law "law" (defScope (top 54)) (Z.fa 41) cdv A outer s H E).xe := passes_of rfl
  exact (ss_cons (asg_ (call_ tk T hr 24 (acons_ v_ ra_nil)) (nm_ g))
    (ss_cons (asg_ (call_ tk T hr 30 (acons_ v_ (acons_ r_int (acons_ r_int ra_nil)))) (nm_ g))
    (ss_cons (for_ g pw (rng1_ g B0 (add_ g r_int (call_ tk T hr 25 (acons_ v_ (acons_ r_int ra_nil))))) (nm_ g) (ss_cons (s_if (t_not (tv_ g (call_ tk T hr 40 (acons_ v_ (acons_ v_ ra_nil))))) (ss_cons (s_ret r_bl)
    ss_nil) ss_nil)
    (ss_cons (asg_ (call_ tk T hr 36 (acons_ v_ (acons_ v_ ra_nil))) (tp_ g (gcons_ (nm_ g) (gcons_ (nm_ g) gs_nil))))
    (ss_cons (s_if (t_not (tv_ g (call_ tk T hr 31 (acons_ v_ (acons_ v_ ra_nil))))) (ss_cons (s_ret r_bl)
    ss_nil) ss_nil)
    (ss_cons (s_if (teq_ g (ix_ g v_ r_int) str_) (ss_cons (asg_ (ix_ g v_ r_int) (nm_ g))
    ss_nil) ss_nil)
    ss_nil)))))
    (ss_cons (s_ret (call_ tk T hr 40 (acons_ v_ (acons_ v_ ra_nil))))
    ss_nil))))
end K11
end
section
set_option Elab.async false
set_option linter.all false
set_option maxRecDepth 100000
set_option autoImplicit false
/-! the table of the defs of law_k11_whole_changes_there_and_back -/
namespace K11
open DL
def wl_MIRRORS : List (List Nat × D) := [([114, 97, 110, 107, 101, 100], .str [114, 105, 103, 104, 116, 114, 97, 110, 107, 101, 100]), ([114, 105, 103, 104, 116, 114, 97, 110, 107, 101, 100], .str [114, 97, 110, 107, 101, 100]), ([108, 101, 102, 116, 109, 111, 115, 116], .str [114, 105, 103, 104, 116, 109, 111, 115, 116]), ([114, 105, 103, 104, 116, 109, 111, 115, 116], .str [108, 101, 102, 116, 109, 111, 115, 116])]
def pss_0 : List (List PySem.Str) := [["thing"],
  ["thing"],
  ["thing"],
  ["thing"],
  ["thing"],
  ["thing"],
  ["thing"],
  ["thing"],
  ["thing"],
  ["thing", "letters"],
  ["thing", "letters"],
  ["rules", "letters"],
  ["thing"],
  ["is_usable", "word"],
  ["thing"],
  ["table", "rule", "rank"],
  ["table", "rank"],
  ["table", "rank"],
  ["table", "manner"],
  ["table", "letters"],
  ["table", "n"],
  ["thing", "letters"],
  ["table", "letters"],
  ["table"],
  ["_law_script"],
  ["_law_feed_here", "_law_many"],
  ["_law_feed_here", "_law_things"],
  ["_law_feed_here"],
  ["_law_feed_here", "_law_signs", "_law_most"],
  ["_law_feed_here", "_law_signs", "_law_many", "_law_most"]]
def pss_1 : List (List PySem.Str) := [["_law_feed_here", "_law_many", "_law_most"],
  ["_law_told", "_law_due"],
  ["_law_ask"],
  ["_law_word"],
  ["_law_feed_here", "_law_triple_here"],
  ["_law_triple_here", "_law_pair", "_law_k"],
  ["_law_feed_here", "_law_triple_here"],
  ["_law_triple_here", "_law_k"],
  ["_law_triple_here", "_law_k"],
  ["_law_triple_here", "_law_pair", "_law_k", "_law_signs"],
  ["_law_feed_here", "_law_triple_here"],
  ["_law_script"]]
def pss : List (List PySem.Str) := pss_0 ++ pss_1
def bs_0 : List (Nat × Nat × Ss) := [(1, 1, KB.b_is_integer),
  (1, 1, (KB.b_is_number 0)),
  (1, 2, (KB.b_is_text 0)),
  (1, 1, (KB.b_is_letter 2)),
  (1, 1, (KB.b_is_piece 2)),
  (1, 2, (KB.b_is_row 4)),
  (1, 1, (KB.b_is_rule 5)),
  (1, 1, (KB.b_is_manner 1)),
  (1, 3, (KB.b_are_letters 3)),
  (1, 3, (KB.b_is_text_of 2)),
  (1, 3, (KB.b_is_rule_of 6 9)),
  (1, 5, (KB.b_rules_fault 10)),
  (1, 5, (KB.b_table_fault 7 11 8)),
  (1, 2, (KB.b_require_usable 1)),
  (1, 4, (KB.b_lets_table 0 12)),
  (1, 7, (KB.b_with_rule 1 13 10)),
  (1, 7, (KB.b_without_rule 1 13)),
  (1, 6, (KB.b_exchanged 1 13)),
  (1, 2, (KB.b_with_manner 7 13)),
  (1, 3, (KB.b_with_letters 8 13)),
  (1, 5, (KB.b_first_rules 1 13)),
  (1, 3, (KB.b_are_names_for 3)),
  (1, 12, (KB.b_renamed 21 13)),
  (1, 6, (KB.b_mirrored 0 13)),
  (0, 2, KB.b_law_feed),
  (2, 7, KB.b_law_draw),
  (2, 2, (KB.b_law_pick 25)),
  (2, 3, (KB.b_law_letters 25 26)),
  (2, 4, (KB.b_law_piece 25 26)),
  (2, 10, (KB.b_law_rules 25 28 26))]
def bs_1 : List (Nat × Nat × Ss) := [(2, 5, (KB.b_law_triple 29 27 26)),
  (1, 3, (KB.b_law_same 31)),
  (0, 0, .cons .brk .nil),
  (1, 1, KB.b_law_no),
  (2, 6, (KB.b_law_new_rule 28 26 25)),
  (1, 7, (KB.b_law_put 33)),
  (2, 11, (KB.b_law_changed 20 32 33 19 25 26 18 17 16 35 15 34)),
  (1, 8, (KB.b_law_undone 31 17 16 15)),
  (1, 4, (KB.b_law_filled 31 20 15)),
  (1, 11, (KB.b_law_through 23 15 31 22)),
  (2, 6, (KB.b_law_back 25 37 35 39 15 16 31 34 18 26 14 38)),
  (0, 6, (KB.b_law 40 25 31 36 30 24))]
def bs : List (Nat × Nat × Ss) := bs_0 ++ bs_1
def gsl : List D := [.str [97, 98, 99, 100, 101, 102, 103, 104, 105, 106, 107, 108, 109, 110, 111, 112, 113, 114, 115, 116, 117, 118, 119, 120, 121, 122], .tup [.str [114, 97, 110, 107, 101, 100], .str [114, 105, 103, 104, 116, 114, 97, 110, 107, 101, 100], .str [108, 101, 102, 116, 109, 111, 115, 116], .str [114, 105, 103, 104, 116, 109, 111, 115, 116], .str [111, 110, 99, 101]]]
def wsl : List (List (List Nat × D)) := [wl_MIRRORS]
def bk : Bk := ⟨bs, gsl, wsl, [(32, 1, [103, 97, 118, 101], [78, 111, 116, 85, 115, 97, 98, 108, 101])]⟩
def un : Under := fun a b => a == b
def depth : Nat := 40
theorem s_is_integer (n : Nat) : (bk.Pn un (n + 1)).S 0 = runF (bk.Pn un n) un 1 1 KB.b_is_integer := Bk.S_eq rfl
theorem s_is_number (n : Nat) : (bk.Pn un (n + 1)).S 1 = runF (bk.Pn un n) un 1 1 (KB.b_is_number 0) := Bk.S_eq rfl
theorem s_is_text (n : Nat) : (bk.Pn un (n + 1)).S 2 = runF (bk.Pn un n) un 1 2 (KB.b_is_text 0) := Bk.S_eq rfl
theorem s_is_letter (n : Nat) : (bk.Pn un (n + 1)).S 3 = runF (bk.Pn un n) un 1 1 (KB.b_is_letter 2) := Bk.S_eq rfl
theorem s_is_piece (n : Nat) : (bk.Pn un (n + 1)).S 4 = runF (bk.Pn un n) un 1 1 (KB.b_is_piece 2) := Bk.S_eq rfl
theorem s_is_row (n : Nat) : (bk.Pn un (n + 1)).S 5 = runF (bk.Pn un n) un 1 2 (KB.b_is_row 4) := Bk.S_eq rfl
theorem s_is_rule (n : Nat) : (bk.Pn un (n + 1)).S 6 = runF (bk.Pn un n) un 1 1 (KB.b_is_rule 5) := Bk.S_eq rfl
theorem s_is_manner (n : Nat) : (bk.Pn un (n + 1)).S 7 = runF (bk.Pn un n) un 1 1 (KB.b_is_manner 1) := Bk.S_eq rfl
theorem s_are_letters (n : Nat) : (bk.Pn un (n + 1)).S 8 = runF (bk.Pn un n) un 1 3 (KB.b_are_letters 3) := Bk.S_eq rfl
theorem s_is_text_of (n : Nat) : (bk.Pn un (n + 1)).S 9 = runF (bk.Pn un n) un 1 3 (KB.b_is_text_of 2) := Bk.S_eq rfl
theorem s_is_rule_of (n : Nat) : (bk.Pn un (n + 1)).S 10 = runF (bk.Pn un n) un 1 3 (KB.b_is_rule_of 6 9) := Bk.S_eq rfl
theorem s_rules_fault (n : Nat) : (bk.Pn un (n + 1)).S 11 = runF (bk.Pn un n) un 1 5 (KB.b_rules_fault 10) := Bk.S_eq rfl
theorem s_table_fault (n : Nat) : (bk.Pn un (n + 1)).S 12 = runF (bk.Pn un n) un 1 5 (KB.b_table_fault 7 11 8) := Bk.S_eq rfl
theorem s_require_usable (n : Nat) : (bk.Pn un (n + 1)).S 13 = runF (bk.Pn un n) un 1 2 (KB.b_require_usable 1) := Bk.S_eq rfl
theorem s_lets_table (n : Nat) : (bk.Pn un (n + 1)).S 14 = runF (bk.Pn un n) un 1 4 (KB.b_lets_table 0 12) := Bk.S_eq rfl
theorem s_with_rule (n : Nat) : (bk.Pn un (n + 1)).S 15 = runF (bk.Pn un n) un 1 7 (KB.b_with_rule 1 13 10) := Bk.S_eq rfl
theorem s_without_rule (n : Nat) : (bk.Pn un (n + 1)).S 16 = runF (bk.Pn un n) un 1 7 (KB.b_without_rule 1 13) := Bk.S_eq rfl
theorem s_exchanged (n : Nat) : (bk.Pn un (n + 1)).S 17 = runF (bk.Pn un n) un 1 6 (KB.b_exchanged 1 13) := Bk.S_eq rfl
theorem s_with_manner (n : Nat) : (bk.Pn un (n + 1)).S 18 = runF (bk.Pn un n) un 1 2 (KB.b_with_manner 7 13) := Bk.S_eq rfl
theorem s_with_letters (n : Nat) : (bk.Pn un (n + 1)).S 19 = runF (bk.Pn un n) un 1 3 (KB.b_with_letters 8 13) := Bk.S_eq rfl
theorem s_first_rules (n : Nat) : (bk.Pn un (n + 1)).S 20 = runF (bk.Pn un n) un 1 5 (KB.b_first_rules 1 13) := Bk.S_eq rfl
theorem s_are_names_for (n : Nat) : (bk.Pn un (n + 1)).S 21 = runF (bk.Pn un n) un 1 3 (KB.b_are_names_for 3) := Bk.S_eq rfl
theorem s_renamed (n : Nat) : (bk.Pn un (n + 1)).S 22 = runF (bk.Pn un n) un 1 12 (KB.b_renamed 21 13) := Bk.S_eq rfl
theorem s_mirrored (n : Nat) : (bk.Pn un (n + 1)).S 23 = runF (bk.Pn un n) un 1 6 (KB.b_mirrored 0 13) := Bk.S_eq rfl
theorem s_law_feed (n : Nat) : (bk.Pn un (n + 1)).S 24 = runF (bk.Pn un n) un 0 2 KB.b_law_feed := Bk.S_eq rfl
theorem s_law_draw (n : Nat) : (bk.Pn un (n + 1)).S 25 = runF (bk.Pn un n) un 2 7 KB.b_law_draw := Bk.S_eq rfl
theorem s_law_pick (n : Nat) : (bk.Pn un (n + 1)).S 26 = runF (bk.Pn un n) un 2 2 (KB.b_law_pick 25) := Bk.S_eq rfl
theorem s_law_letters (n : Nat) : (bk.Pn un (n + 1)).S 27 = runF (bk.Pn un n) un 2 3 (KB.b_law_letters 25 26) := Bk.S_eq rfl
theorem s_law_piece (n : Nat) : (bk.Pn un (n + 1)).S 28 = runF (bk.Pn un n) un 2 4 (KB.b_law_piece 25 26) := Bk.S_eq rfl
theorem s_law_rules (n : Nat) : (bk.Pn un (n + 1)).S 29 = runF (bk.Pn un n) un 2 10 (KB.b_law_rules 25 28 26) := Bk.S_eq rfl
theorem s_law_triple (n : Nat) : (bk.Pn un (n + 1)).S 30 = runF (bk.Pn un n) un 2 5 (KB.b_law_triple 29 27 26) := Bk.S_eq rfl
theorem s_law_same (n : Nat) : (bk.Pn un (n + 1)).S 31 = runF (bk.Pn un n) un 1 3 (KB.b_law_same 31) := Bk.S_eq rfl
theorem s_law_no (n : Nat) : (bk.Pn un (n + 1)).S 33 = runF (bk.Pn un n) un 1 1 KB.b_law_no := Bk.S_eq rfl
theorem s_law_new_rule (n : Nat) : (bk.Pn un (n + 1)).S 34 = runF (bk.Pn un n) un 2 6 (KB.b_law_new_rule 28 26 25) := Bk.S_eq rfl
theorem s_law_put (n : Nat) : (bk.Pn un (n + 1)).S 35 = runF (bk.Pn un n) un 1 7 (KB.b_law_put 33) := Bk.S_eq rfl
theorem s_law_changed (n : Nat) : (bk.Pn un (n + 1)).S 36 = runF (bk.Pn un n) un 2 11 (KB.b_law_changed 20 32 33 19 25 26 18 17 16 35 15 34) := Bk.S_eq rfl
theorem s_law_undone (n : Nat) : (bk.Pn un (n + 1)).S 37 = runF (bk.Pn un n) un 1 8 (KB.b_law_undone 31 17 16 15) := Bk.S_eq rfl
theorem s_law_filled (n : Nat) : (bk.Pn un (n + 1)).S 38 = runF (bk.Pn un n) un 1 4 (KB.b_law_filled 31 20 15) := Bk.S_eq rfl
theorem s_law_through (n : Nat) : (bk.Pn un (n + 1)).S 39 = runF (bk.Pn un n) un 1 11 (KB.b_law_through 23 15 31 22) := Bk.S_eq rfl
theorem s_law_back (n : Nat) : (bk.Pn un (n + 1)).S 40 = runF (bk.Pn un n) un 2 6 (KB.b_law_back 25 37 35 39 15 16 31 34 18 26 14 38) := Bk.S_eq rfl
theorem s_law (n : Nat) : (bk.Pn un (n + 1)).S 41 = runF (bk.Pn un n) un 0 6 (KB.b_law 40 25 31 36 30 24) := Bk.S_eq rfl
end K11
end
section
set_option Elab.async false
set_option linter.all false
set_option maxRecDepth 100000
set_option autoImplicit false
set_option maxHeartbeats 4000000
/-! PL0: the evaluator's equations, one a form; what operations give on plain data. No machine in sight. -/
namespace PL
open DL

@[simp] theorem ofO_some {α : Type} (a : α) (M : Store) : ofO (some a) M = .ok a M := rfl
@[simp] theorem ofO_none {α : Type} (M : Store) : (ofO (none : Option α) M) = .no := rfl
/-- a turn of a for loop -/
noncomputable def forF (P : Fns) (u : Under) (t : T) (b : Ss) (x : D) (ρ : Env) (M : Store) : F := match T.put t x ρ with
  | some ρ' => execs P u b ρ' M
  | none => .no
section
variable (P : Fns) (u : Under) (ρ : Env) (M : Store)
@[simp] theorem forF_ap (t : T) (b : Ss) (x : D) : forF P u t b x ρ M = (match T.put t x ρ with
  | some ρ' => execs P u b ρ' M
  | none => .no) := rfl
@[simp] theorem ev_c (d : D) : ev P (.c d) ρ M = .ok d M := by rw [ev] <;> rfl
@[simp] theorem ev_v (i : Nat) : ev P (.v i) ρ M = getV ρ i M := by rw [ev] <;> rfl
@[simp] theorem ev_g (i : Nat) : ev P (.g i) ρ M = ofO (P.G i) M := by rw [ev] <;> rfl
@[simp] theorem ev_fn (i : Nat) : ev P (.fn i) ρ M = .ok (.fn i) M := by rw [ev] <;> rfl
@[simp] theorem ev_o1a (o : O1) (a : E) : ev P (.o1 o a) ρ M = (ev P a ρ M).bind fun x M => ofO (ev1 o x M) M := by rw [ev] <;> rfl
@[simp] theorem ev_o2a (o : O2) (a b : E) : ev P (.o2 o a b) ρ M = (ev P a ρ M).bind fun x M => (ev P b ρ M).bind fun y M => ofO (ev2 o x y M) M := by rw [ev] <;> rfl
@[simp] theorem ev_sl (pl ph : Bool) (a lo hi : E) : ev P (.sl pl ph a lo hi) ρ M = (ev P a ρ M).bind fun x M => ((ev P lo ρ M).bind fun l M => ofO (partB pl l) M).bind fun l M => ((ev P hi ρ M).bind fun h M => ofO (partB ph h) M).bind fun h M => ofO (sliceI x l h M) M := by rw [ev] <;> rfl
@[simp] theorem ev_idx (t : Bool) (a b : E) : ev P (.idx t a b) ρ M = (ev P a ρ M).bind fun x M => if okR t x M = true then (ev P b ρ M).bind fun y M => ofO (ev2 (if t = true then .indexT else .index) x y M) M else .no := by rw [ev] <;> rfl
@[simp] theorem ev_back (a : E) : ev P (.back a) ρ M = (ev P a ρ M).bind fun x M => ofO (backD x M) M := by rw [ev] <;> rfl
@[simp] theorem ev_not (a : E) : ev P (.not a) ρ M = (ev P a ρ M).bind fun x M => (ofO (truth M x) M).bind fun k M => .ok (.bl (!k)) M := by rw [ev] <;> rfl
@[simp] theorem ev_and (a b : E) : ev P (.and a b) ρ M = (ev P a ρ M).bind fun x M => asB x fun k => if k = true then ev P b ρ M else .ok (.bl false) M := by rw [ev] <;> rfl
@[simp] theorem ev_or (a b : E) : ev P (.or a b) ρ M = (ev P a ρ M).bind fun x M => asB x fun k => if k = true then .ok (.bl true) M else ev P b ρ M := by rw [ev] <;> rfl
@[simp] theorem ev_ife (t a b : E) : ev P (.ife t a b) ρ M = (evB P t ρ M).bind fun k M => if k = true then ev P a ρ M else ev P b ρ M := by rw [ev] <;> rfl
@[simp] theorem ev_chain (o o' : O2) (a b c : E) : ev P (.chain o o' a b c) ρ M = (ev P a ρ M).bind fun x M => (ev P b ρ M).bind fun y M => (ofO (ev2 o x y M) M).bind fun r M => asB r fun k => if k = true then (ev P c ρ M).bind fun z M => ofO (ev2 o' y z M) M else .ok (.bl false) M := by rw [ev] <;> rfl
@[simp] theorem ev_tup (k : Bool) (es : Es) : ev P (.tup k es) ρ M = (evs P es ρ M).bind fun ds M => if ds.length ≤ line then .ok (if k = true then .key ds else .tup ds) M else .no := by rw [ev] <;> rfl
@[simp] theorem ev_lst (es : Es) : ev P (.lst es) ρ M = (evs P es ρ M).bind fun ds M => if ds.length ≤ line then .ok (.lst ds) M else .no := by rw [ev] <;> rfl
@[simp] theorem ev_newl (es : Es) : ev P (.newl es) ρ M = (evs P es ρ M).bind fun ds M => if ds.length ≤ line then .ok (.ref M.length) (M ++ [.lst ds]) else .no := by rw [ev] <;> rfl
@[simp] theorem ev_lof (a : E) : ev P (.lof a) ρ M = (ev P a ρ M).bind fun x M => match itemsOf M x with
    | some ds => .ok (.ref M.length) (M ++ [.lst ds])
    | none => .no := by rw [ev] <;> rfl
@[simp] theorem ev_newd (tk : Bool) (es : Es) : ev P (.newd tk es) ρ M = (evs P es ρ M).bind fun ds M => match pairUp ds with
    | some ps => if ps.all (fun p => putOk tk p.1) = true ∧ ps.length ≤ 15 then .ok (.ref M.length) (M ++ [.dict tk (ps.foldl (fun m p => putKv m p.1 p.2) [])]) else .no
    | none => .no := by rw [ev] <;> rfl
@[simp] theorem ev_call (f : Nat) (pm : List (Sum Nat D)) (es ks : Es) : ev P (.call f pm es ks) ρ M = (evs P es ρ M).bind fun ds M => (evs P ks ρ M).bind fun zs M => callO (P.S f) (pick (ds ++ zs) pm) M := by rw [ev] <;> rfl
@[simp] theorem ev_told (f : Nat) (b : E) : ev P (.told f b) ρ M = P.T f (fun M' => ev P b ρ M') M := by rw [ev] <;> rfl
@[simp] theorem ev_thk : ev P .thk ρ M = P.th M := by rw [ev] <;> rfl
@[simp] theorem ev_wget (n : Nat) (a : E) : ev P (.wget n a) ρ M = (ev P a ρ M).bind fun x M => ofO (wgetD (P.Wd n) x) M := by rw [ev] <;> rfl
@[simp] theorem ev_win (neg : Bool) (n : Nat) (a : E) : ev P (.win neg n a) ρ M = (ev P a ρ M).bind fun x M => ofO (winD neg (P.Wd n) x) M := by rw [ev] <;> rfl
@[simp] theorem ev_lc (mu : Bool) (own : List Nat) (t : T) (it : I) (cd : Es) (e : E) : ev P (.lc mu own t it cd e) ρ M = (evI P it ρ M).bind fun w M =>
      (comp w.2 w.1 (fun x M => match T.put t x (wipeE ρ own) with
        | some ρ' => (evC P cd ρ' M).bind fun k M => if k = true then (ev P e ρ' M).bind fun d M => .ok (some d) M else .ok none M
        | none => .no) w.1 [] M).bind fun ds M => if mu = true then .ok (.ref M.length) (M ++ [.lst ds]) else .ok (.lst ds) M := by rw [ev] <;> rfl
@[simp] theorem ev_dc (tk : Bool) (own : List Nat) (t : T) (it : I) (k v : E) : ev P (.dc tk own t it k v) ρ M = (evI P it ρ M).bind fun w M =>
      (dcomp tk w.2 w.1 (fun x M => match T.put t x (wipeE ρ own) with
        | some ρ' => (ev P k ρ' M).bind fun a M => (ev P v ρ' M).bind fun b M => .ok (a, b) M
        | none => .no) w.1 [] M).bind fun kvs M => .ok (.ref M.length) (M ++ [.dict tk kvs]) := by rw [ev] <;> rfl
@[simp] theorem evB_not (a : E) : evB P (.not a) ρ M = (evB P a ρ M).bind fun k M => .ok (!k) M := by rw [evB] <;> rfl
@[simp] theorem evB_and (a b : E) : evB P (.and a b) ρ M = (evB P a ρ M).bind fun k M => if k = true then evB P b ρ M else .ok false M := by rw [evB] <;> rfl
@[simp] theorem evB_or (a b : E) : evB P (.or a b) ρ M = (evB P a ρ M).bind fun k M => if k = true then .ok true M else evB P b ρ M := by rw [evB] <;> rfl
theorem evB_pl (e : E) (h : (match e with | .not _ => false | .and _ _ => false | .or _ _ => false | _ => true) = true) : evB P e ρ M = (ev P e ρ M).bind fun x M => ofO (truth M x) M := by
  cases e with
  | not a => cases h
  | and a b => cases h
  | or a b => cases h
  | _ => rw [evB] <;> (intros; contradiction)
@[simp] theorem evB_v (i : Nat) : evB P (.v i) ρ M = (ev P (.v i) ρ M).bind fun x M => ofO (truth M x) M := evB_pl P ρ M _ rfl
@[simp] theorem evB_c (d : D) : evB P (.c d) ρ M = (ev P (.c d) ρ M).bind fun x M => ofO (truth M x) M := evB_pl P ρ M _ rfl
@[simp] theorem evB_o1 (o : O1) (a : E) : evB P (.o1 o a) ρ M = (ev P (.o1 o a) ρ M).bind fun x M => ofO (truth M x) M := evB_pl P ρ M _ rfl
@[simp] theorem evB_o2 (o : O2) (a b : E) : evB P (.o2 o a b) ρ M = (ev P (.o2 o a b) ρ M).bind fun x M => ofO (truth M x) M := evB_pl P ρ M _ rfl
@[simp] theorem evB_chain (o o' : O2) (a b c : E) : evB P (.chain o o' a b c) ρ M = (ev P (.chain o o' a b c) ρ M).bind fun x M => ofO (truth M x) M := evB_pl P ρ M _ rfl
@[simp] theorem evB_call (f : Nat) (pm : List (Sum Nat D)) (es ks : Es) : evB P (.call f pm es ks) ρ M = (ev P (.call f pm es ks) ρ M).bind fun x M => ofO (truth M x) M := evB_pl P ρ M _ rfl
@[simp] theorem evB_win (neg : Bool) (n : Nat) (a : E) : evB P (.win neg n a) ρ M = (ev P (.win neg n a) ρ M).bind fun x M => ofO (truth M x) M := evB_pl P ρ M _ rfl
@[simp] theorem evB_sl (pl ph : Bool) (a lo hi : E) : evB P (.sl pl ph a lo hi) ρ M = (ev P (.sl pl ph a lo hi) ρ M).bind fun x M => ofO (truth M x) M := evB_pl P ρ M _ rfl
@[simp] theorem evB_lc (mu : Bool) (own : List Nat) (t : T) (it : I) (cd : Es) (e : E) : evB P (.lc mu own t it cd e) ρ M = (ev P (.lc mu own t it cd e) ρ M).bind fun x M => ofO (truth M x) M := evB_pl P ρ M _ rfl
@[simp] theorem evs_nil : evs P .nil ρ M = .ok [] M := by rw [evs] <;> rfl
@[simp] theorem evs_cons (e : E) (r : Es) : evs P (.cons e r) ρ M = (ev P e ρ M).bind fun d M => (evs P r ρ M).bind fun ds M => .ok (d :: ds) M := by rw [evs] <;> rfl
@[simp] theorem evs_star (e : E) (r : Es) : evs P (.star e r) ρ M = (ev P e ρ M).bind fun d M => match itemsOf M d with
    | some xs => (evs P r ρ M).bind fun ds M => .ok (xs ++ ds) M
    | none => .no := by rw [evs] <;> rfl
@[simp] theorem evC_nil : evC P .nil ρ M = .ok true M := by rw [evC] <;> rfl
@[simp] theorem evC_cons (e : E) (r : Es) : evC P (.cons e r) ρ M = (evB P e ρ M).bind fun k M => if k = true then evC P r ρ M else .ok false M := by rw [evC] <;> rfl
@[simp] theorem evI_seq (e : E) : evI P (.seq e) ρ M = (ev P e ρ M).bind fun d M => ofO (walked M d) M := by rw [evI] <;> rfl
theorem evI_rng1 (a : E) : evI P (.rng1 a) ρ M = (ev P a ρ M).bind fun x M => match x with
    | .int i => if big i then .ok (range 0 i, none) M else .no
    | _ => .no := by rw [evI] <;> rfl
theorem evI_rng2 (a b : E) : evI P (.rng2 a b) ρ M = (ev P a ρ M).bind fun x M => (ev P b ρ M).bind fun y M => match x, y with
    | .int i, .int j => if big i && big j then .ok (range i j, none) M else .no
    | _, _ => .no := by rw [evI] <;> rfl
theorem rng1_of {P : Fns} {ρ : Env} {M M' : Store} {a : E} {i : Int} (h : ev P a ρ M = .ok (.int i) M') (hb : big i = true) : evI P (.rng1 a) ρ M = .ok (range 0 i, none) M' := by
  rw [evI_rng1, h, R.bind_ok]
  show (if big i = true then _ else _) = _
  rw [if_pos hb]
theorem rng2_of {P : Fns} {ρ : Env} {M M1 M2 : Store} {a b : E} {i j : Int} (h : ev P a ρ M = .ok (.int i) M1) (h2 : ev P b ρ M1 = .ok (.int j) M2) (hb : (big i && big j) = true) : evI P (.rng2 a b) ρ M = .ok (range i j, none) M2 := by
  rw [evI_rng2, h, R.bind_ok, h2, R.bind_ok]
  show (if (big i && big j) = true then _ else _) = _
  rw [if_pos hb]
@[simp] theorem evI_enm (e : E) : evI P (.enm e) ρ M = (ev P e ρ M).bind fun d M => match d with
    | .lst ds => .ok (numT ds, none) M
    | d => match asTup d with
      | some ds => .ok (numT ds, none) M
      | none => .no := by rw [evI] <;> rfl
@[simp] theorem evI_zip (a b : E) : evI P (.zip a b) ρ M = (ev P a ρ M).bind fun x M => (ev P b ρ M).bind fun y M => match x, y with
    | .lst ds, .lst es => .ok (zipT ds es, none) M
    | x, y => match asTup x, asTup y with
      | some ds, some es => .ok (zipT ds es, none) M
      | _, _ => .no := by rw [evI] <;> rfl
@[simp] theorem exec_asg (t : T) (e : E) : exec P u (.asg t e) ρ M = (ev P e ρ M).toF ρ fun d M => match T.put t d ρ with
    | some ρ' => .nx ρ' M
    | none => .no := by rw [exec] <;> rfl
@[simp] theorem exec_par (is : List Nat) (es : Es) : exec P u (.par is es) ρ M = (evs P es ρ M).toF ρ fun ds M => match setAll is ds ρ with
    | some ρ' => .nx ρ' M
    | none => .no := by rw [exec] <;> rfl
@[simp] theorem exec_sub (o i e : E) : exec P u (.sub o i e) ρ M = (ev P e ρ M).toF ρ fun d M => (ev P o ρ M).toF ρ fun x M => (ev P i ρ M).toF ρ fun k M => ofS (subD x k d M) ρ := by rw [exec] <;> rfl
@[simp] theorem exec_sub2 (o i o' i' a b : E) : exec P u (.sub2 o i o' i' a b) ρ M = (ev P a ρ M).toF ρ fun da M => (ev P b ρ M).toF ρ fun db M =>
      (ev P o ρ M).toF ρ fun x M => (ev P i ρ M).toF ρ fun k M => match subD x k da M with
      | some M => (ev P o' ρ M).toF ρ fun x M => (ev P i' ρ M).toF ρ fun k M => ofS (subD x k db M) ρ
      | none => .no := by rw [exec] <;> rfl
@[simp] theorem exec_ex (e : E) : exec P u (.ex e) ρ M = (ev P e ρ M).toF ρ fun _ M => .nx ρ M := by rw [exec] <;> rfl
@[simp] theorem exec_app (o e : E) : exec P u (.app o e) ρ M = (ev P o ρ M).toF ρ fun x M => if isL x M = true then (ev P e ρ M).toF ρ fun d M => ofS (appD x d M) ρ else .no := by rw [exec] <;> rfl
@[simp] theorem exec_ret (e : E) : exec P u (.ret e) ρ M = (ev P e ρ M).toF ρ fun d M => .rt d M := by rw [exec] <;> rfl
@[simp] theorem exec_retN : exec P u .retN ρ M = .rt .non M := by rw [exec] <;> rfl
@[simp] theorem exec_cond (t : E) (a b : Ss) : exec P u (.cond t a b) ρ M = (evB P t ρ M).toF ρ fun k M => if k = true then execs P u a ρ M else execs P u b ρ M := by rw [exec] <;> rfl
@[simp] theorem exec_for (t : T) (it : I) (b : Ss) : exec P u (.for_ t it b) ρ M = (evI P it ρ M).toF ρ fun w M => loop w.2 w.1 (forF P u t b) w.1 ρ M := by rw [exec] <;> rfl
@[simp] theorem exec_while (t : E) (b : Ss) : exec P u (.while_ t b) ρ M = wloop (fun ρ M => evB P t ρ M) (fun ρ M => execs P u b ρ M) turns ρ M := by rw [exec] <;> rfl
@[simp] theorem exec_raise (c : Nat) (es : Es) : exec P u (.raise c es) ρ M = (evs P es ρ M).toF ρ fun ds M => .ex c ds ρ M := by rw [exec] <;> rfl
@[simp] theorem exec_pass : exec P u .pass ρ M = .nx ρ M := by rw [exec] <;> rfl
@[simp] theorem exec_brk : exec P u .brk ρ M = .bk ρ M := by rw [exec] <;> rfl
@[simp] theorem exec_cnt : exec P u .cnt ρ M = .ct ρ M := by rw [exec] <;> rfl
@[simp] theorem execs_nil : execs P u .nil ρ M = .nx ρ M := by rw [execs] <;> rfl
@[simp] theorem execs_cons (s : S) (r : Ss) : execs P u (.cons s r) ρ M = (exec P u s ρ M).seq fun ρ M => execs P u r ρ M := by rw [execs] <;> rfl
end
/-! names -/
@[simp] theorem getV_zero (x : Option D) (ρ : Env) (M : Store) : getV (x :: ρ) 0 M = (match x with | some d => .ok d M | none => .no) := by cases x <;> rfl
@[simp] theorem getV_succ (x : Option D) (ρ : Env) (i : Nat) (M : Store) : getV (x :: ρ) (i + 1) M = getV ρ i M := by
  unfold getV
  rw [List.getElem?_cons_succ]
@[simp] theorem put_nm (i : Nat) (d : D) (ρ : Env) : T.put (.nm i) d ρ = some (ρ.set i (some d)) := by rw [T.put]
@[simp] theorem put_tup (ts : Ts) (ds : List D) (ρ : Env) : T.put (.tp ts) (.tup ds) ρ = Ts.put ts ds ρ := by rw [T.put]
@[simp] theorem put_key (ts : Ts) (ds : List D) (ρ : Env) : T.put (.tp ts) (.key ds) ρ = Ts.put ts ds ρ := by rw [T.put]
@[simp] theorem puts_nil (ρ : Env) : Ts.put .nil [] ρ = some ρ := by rw [Ts.put]; rfl
@[simp] theorem puts_cons (t : T) (r : Ts) (d : D) (ds : List D) (ρ : Env) : Ts.put (.cons t r) (d :: ds) ρ = (match T.put t d ρ with | some ρ' => Ts.put r ds ρ' | none => none) := by
  rw [Ts.put] <;> rfl
@[simp] theorem setAll_nil (ρ : Env) : setAll [] [] ρ = some ρ := rfl
@[simp] theorem setAll_cons (i : Nat) (is : List Nat) (d : D) (ds : List D) (ρ : Env) : setAll (i :: is) (d :: ds) ρ = setAll is ds (ρ.set i (some d)) := rfl
@[simp] theorem wipeE_nil (ρ : Env) : wipeE ρ [] = ρ := rfl
@[simp] theorem wipeE_cons (ρ : Env) (i : Nat) (r : List Nat) : wipeE ρ (i :: r) = (wipeE ρ r).set i none := rfl
@[simp] theorem asB_bl' (k : Bool) (f : Bool → R D) : asB (.bl k) f = f k := rfl
@[simp] theorem callO_some (S : List D → Store → R D) (as : List D) (M : Store) : callO S (some as) M = S as M := rfl
@[simp] theorem ofS_some (M : Store) (ρ : Env) : ofS (some M) ρ = .nx ρ M := rfl
@[simp] theorem noEx_ok {α : Type} (a : α) (M : Store) : noEx (.ok a M) = .ok a M := rfl
@[simp] theorem turn_nx (ρ : Env) (M : Store) (f : Env → Store → F) : (F.nx ρ M).turn f = f ρ M := rfl
@[simp] theorem turn_ct (ρ : Env) (M : Store) (f : Env → Store → F) : (F.ct ρ M).turn f = f ρ M := rfl
@[simp] theorem turn_bk (ρ : Env) (M : Store) (f : Env → Store → F) : (F.bk ρ M).turn f = .nx ρ M := rfl
@[simp] theorem turn_rt (d : D) (M : Store) (f : Env → Store → F) : (F.rt d M).turn f = .rt d M := rfl
@[simp] theorem turn_ex (c : Nat) (ds : List D) (ρ : Env) (M : Store) (f : Env → Store → F) : (F.ex c ds ρ M).turn f = .ex c ds ρ M := rfl
@[simp] theorem toR_nx (ρ : Env) (M : Store) : (F.nx ρ M).toR = .ok .non M := rfl
@[simp] theorem toR_rt (d : D) (M : Store) : (F.rt d M).toR = .ok d M := rfl
@[simp] theorem toR_ex (c : Nat) (ds : List D) (ρ : Env) (M : Store) : (F.ex c ds ρ M).toR = .ex c ds M := rfl
/-! picks -/
@[simp] theorem pick_nil (vs : List D) : pick vs [] = some [] := rfl
@[simp] theorem idPm0 : idPm 0 = [] := rfl
@[simp] theorem pk1 (a : D) : pick [a] (idPm 1) = some [a] := rfl
@[simp] theorem pk2 (a b : D) : pick [a, b] (idPm 2) = some [a, b] := rfl
@[simp] theorem pk3 (a b c : D) : pick [a, b, c] (idPm 3) = some [a, b, c] := rfl
@[simp] theorem pk4 (a b c d : D) : pick [a, b, c, d] (idPm 4) = some [a, b, c, d] := rfl
@[simp] theorem pk5 (a b c d e : D) : pick [a, b, c, d, e] (idPm 5) = some [a, b, c, d, e] := rfl
/-! reading -/
@[simp] theorem rd_non (M : Store) : rd M .non = .non := rfl
@[simp] theorem rd_bl (M : Store) (b : Bool) : rd M (.bl b) = .bl b := rfl
@[simp] theorem rd_int (M : Store) (b : Int) : rd M (.int b) = .int b := rfl
@[simp] theorem rd_str (M : Store) (b : List Nat) : rd M (.str b) = .str b := rfl
@[simp] theorem rd_tup (M : Store) (b : List D) : rd M (.tup b) = .tup b := rfl
@[simp] theorem rd_key (M : Store) (b : List D) : rd M (.key b) = .key b := rfl
@[simp] theorem rd_lst (M : Store) (b : List D) : rd M (.lst b) = .lst b := rfl
@[simp] theorem rd_scr (M : Store) (b : List Int) : rd M (.scr b) = .scr b := rfl
theorem rd_ref {M : Store} {n : Nat} {ds : List D} (h : M[n]? = some (.lst ds)) : rd M (.ref n) = .lst ds := by
  show rdR n M[n]? = _
  rw [h]
  rfl
theorem rd_dict {M : Store} {n : Nat} {tk : Bool} {kvs : List (D × D)} (h : M[n]? = some (.dict tk kvs)) : rd M (.ref n) = .ref n := by
  show rdR n M[n]? = _
  rw [h]
  rfl
theorem rk_of {M : Store} {d x : D} (h : rd M d = x) (k : ∀ ds, x ≠ .key ds) : rk M d = x := by
  unfold rk
  rw [h]
  cases x <;> first | rfl | exact absurd rfl (k _)
@[simp] theorem rk_non (M : Store) : rk M .non = .non := rfl
@[simp] theorem rk_bl (M : Store) (b : Bool) : rk M (.bl b) = .bl b := rfl
@[simp] theorem rk_int (M : Store) (b : Int) : rk M (.int b) = .int b := rfl
@[simp] theorem rk_str (M : Store) (b : List Nat) : rk M (.str b) = .str b := rfl
@[simp] theorem rk_tup (M : Store) (b : List D) : rk M (.tup b) = .tup b := rfl
@[simp] theorem rk_key (M : Store) (b : List D) : rk M (.key b) = .tup b := rfl
@[simp] theorem rk_lst (M : Store) (b : List D) : rk M (.lst b) = .lst b := rfl
theorem rk_ref {M : Store} {n : Nat} {ds : List D} (h : M[n]? = some (.lst ds)) : rk M (.ref n) = .lst ds := rk_of (rd_ref h) (fun _ z => by cases z)
theorem rk_dict {M : Store} {n : Nat} {tk : Bool} {kvs : List (D × D)} (h : M[n]? = some (.dict tk kvs)) : rk M (.ref n) = .ref n := rk_of (rd_dict h) (fun _ z => by cases z)
@[simp] theorem asTup_tup (ds : List D) : asTup (.tup ds) = some ds := rfl
@[simp] theorem asTup_key (ds : List D) : asTup (.key ds) = some ds := rfl
/-! truth -/
@[simp] theorem truth_non (M : Store) : truth M .non = some false := rfl
@[simp] theorem truth_b (M : Store) (b : Bool) : truth M (.bl b) = some b := rfl
@[simp] theorem truth_int (M : Store) (b : Int) : truth M (.int b) = some (b != 0) := rfl
@[simp] theorem truth_tup (M : Store) (b : List D) : truth M (.tup b) = some (!b.isEmpty) := rfl
@[simp] theorem truth_key (M : Store) (b : List D) : truth M (.key b) = some (!b.isEmpty) := rfl
@[simp] theorem truth_lst (M : Store) (b : List D) : truth M (.lst b) = some (!b.isEmpty) := rfl
/-! ints -/
@[simp] theorem add_ii (i j : Int) (M : Store) : ev2 .add (.int i) (.int j) M = some (.int (i + j)) := rfl
@[simp] theorem sub_ii (i j : Int) (M : Store) : ev2 .sub (.int i) (.int j) M = some (.int (i - j)) := rfl
theorem mul_ii {i j : Int} (M : Store) (h : (small i || small j) = true) : ev2 .mul (.int i) (.int j) M = some (.int (i * j)) := by
  show (if small i || small j then _ else _) = _
  rw [if_pos h]
theorem fdiv_ii {i j : Int} (M : Store) (h : 0 < j ∧ j < 1073741824) : ev2 .fdiv (.int i) (.int j) M = some (.int (i / j)) := by
  show (if 0 < j ∧ j < 1073741824 then _ else _) = _
  rw [if_pos h]
theorem mod_ii {i j : Int} (M : Store) (h : 0 < j) : ev2 .mod (.int i) (.int j) M = some (.int (i % j)) := by
  show (if 0 < j then _ else _) = _
  rw [if_pos h]
@[simp] theorem lt_ii (i j : Int) (M : Store) : ev2 .lt (.int i) (.int j) M = some (.bl (decide (i < j))) := rfl
@[simp] theorem le_ii (i j : Int) (M : Store) : ev2 .le (.int i) (.int j) M = some (.bl (decide (i ≤ j))) := rfl
@[simp] theorem gt_ii (i j : Int) (M : Store) : ev2 .gt (.int i) (.int j) M = some (.bl (decide (j < i))) := rfl
@[simp] theorem ge_ii (i j : Int) (M : Store) : ev2 .ge (.int i) (.int j) M = some (.bl (decide (j ≤ i))) := rfl
@[simp] theorem lt_ss (i j : List Nat) (M : Store) : ev2 .lt (.str i) (.str j) M = some (.bl (ltN i j)) := rfl
@[simp] theorem int_i (i : Int) (M : Store) : ev1 .int (.int i) M = some (.int i) := rfl
@[simp] theorem neg_i (i : Int) (M : Store) : ev1 .neg (.int i) M = some (.int (-i)) := rfl
@[simp] theorem isN_ (a : D) (M : Store) : ev2 .isN a .non M = some (.bl a.isNon) := rfl
@[simp] theorem notN_ (a : D) (M : Store) : ev2 .notN a .non M = some (.bl (!a.isNon)) := rfl
@[simp] theorem isNon_non : D.isNon .non = true := rfl
@[simp] theorem isNon_bl (b : Bool) : D.isNon (.bl b) = false := rfl
@[simp] theorem isNon_int (b : Int) : D.isNon (.int b) = false := rfl
@[simp] theorem isNon_str (b : List Nat) : D.isNon (.str b) = false := rfl
@[simp] theorem isNon_tup (b : List D) : D.isNon (.tup b) = false := rfl
@[simp] theorem isNon_key (b : List D) : D.isNon (.key b) = false := rfl
@[simp] theorem isNon_lst (b : List D) : D.isNon (.lst b) = false := rfl
end PL
end
section
set_option Elab.async false
set_option linter.all false
set_option maxRecDepth 100000
set_option autoImplicit false
set_option maxHeartbeats 4000000
/-! PL1: settled results, comprehensions, loops, equality of plain data. -/
namespace PL
open DL
/-! ### the store's bounds -/
mutual
theorem bnd_plain (n : Nat) : ∀ d : D, d.plain = true → d.bnd n = true
  | .non, _ => rfl
  | .bl _, _ => rfl
  | .int _, _ => rfl
  | .str _, _ => rfl
  | .fn _, _ => rfl
  | .ty _, _ => rfl
  | .scr _, _ => rfl
  | .ref _, h => by simp [D.plain] at h
  | .exc _ _, h => by simp [D.plain] at h
  | .tup ds, h => by
    rw [D.plain] at h
    rw [D.bnd]
    exact bnds_plain n ds h
  | .lst ds, h => by
    rw [D.plain] at h
    rw [D.bnd]
    exact bnds_plain n ds h
  | .key ds, h => by
    rw [D.plain] at h
    rw [D.bnd]
    exact bnds_plain n ds h
theorem bnds_plain (n : Nat) : ∀ ds : List D, D.plains ds = true → D.bnds n ds = true
  | [], _ => rfl
  | d :: ds, h => by
    rw [D.plains, Bool.and_eq_true] at h
    rw [D.bnds, Bool.and_eq_true]
    exact ⟨bnd_plain n d h.1, bnds_plain n ds h.2⟩
end
theorem plains_iff : ∀ ds : List D, D.plains ds = true ↔ ∀ d ∈ ds, d.plain = true
  | [] => by simp [D.plains]
  | d :: ds => by simp [D.plains, plains_iff ds]
@[simp] theorem plain_non : D.plain .non = true := rfl
@[simp] theorem plain_bl (b : Bool) : D.plain (.bl b) = true := rfl
@[simp] theorem plain_int (b : Int) : D.plain (.int b) = true := rfl
@[simp] theorem plain_str (b : List Nat) : D.plain (.str b) = true := rfl
@[simp] theorem plain_tup (b : List D) : D.plain (.tup b) = D.plains b := by rw [D.plain]
@[simp] theorem plain_key (b : List D) : D.plain (.key b) = D.plains b := by rw [D.plain]
@[simp] theorem plain_lst (b : List D) : D.plain (.lst b) = D.plains b := by rw [D.plain]
@[simp] theorem plains_nil : D.plains [] = true := rfl
@[simp] theorem plains_cons (d : D) (ds : List D) : D.plains (d :: ds) = (d.plain && D.plains ds) := by rw [D.plains]
@[simp] theorem bnd_non (n : Nat) : D.bnd n .non = true := rfl
@[simp] theorem bnd_bl (n : Nat) (b : Bool) : D.bnd n (.bl b) = true := rfl
@[simp] theorem bnd_int (n : Nat) (b : Int) : D.bnd n (.int b) = true := rfl
@[simp] theorem bnd_str (n : Nat) (b : List Nat) : D.bnd n (.str b) = true := rfl
@[simp] theorem bnds_nil (n : Nat) : D.bnds n [] = true := rfl
@[simp] theorem bnds_cons (n : Nat) (d : D) (ds : List D) : D.bnds n (d :: ds) = (d.bnd n && D.bnds n ds) := by rw [D.bnds]
@[simp] theorem bnd_tup (n : Nat) (b : List D) : D.bnd n (.tup b) = D.bnds n b := by rw [D.bnd]
@[simp] theorem bnd_key (n : Nat) (b : List D) : D.bnd n (.key b) = D.bnds n b := by rw [D.bnd]
@[simp] theorem bnd_lst (n : Nat) (b : List D) : D.bnd n (.lst b) = D.bnds n b := by rw [D.bnd]
theorem plains_app (a b : List D) : D.plains (a ++ b) = (D.plains a && D.plains b) := by
  induction a with
  | nil => simp
  | cons x a ih => simp [ih, Bool.and_assoc]
/-! ### settled -/
theorem settle1 {M X : Store} {d : D} (h : d.bnd M.length = true) : settle 1 M (.ok d (M ++ X)) = .ok d M := by
  unfold settle
  rw [if_neg (by decide)]
  have e1 : stays 1 M (M ++ X) = some M := by
    unfold stays
    rw [if_pos rfl, if_pos (by simp)]
  have e2 : freeze M.length (M ++ X) d = some d := by
    unfold freeze
    rw [if_pos h]
  simp only [e1, e2]
theorem settle1' {M : Store} {d : D} (h : d.bnd M.length = true) : settle 1 M (.ok d M) = .ok d M := by
  have := settle1 (X := []) h
  rwa [List.append_nil] at this
theorem settle1x {M X : Store} {c : Nat} {ds : List D} (h : D.bnds M.length ds = true) : settle 1 M (.ex c ds (M ++ X)) = .ex c ds M := by
  unfold settle
  rw [if_neg (by decide)]
  have e1 : stays 1 M (M ++ X) = some M := by
    unfold stays
    rw [if_pos rfl, if_pos (by simp)]
  simp only [e1, if_pos h]
theorem settle1x' {M : Store} {c : Nat} {ds : List D} (h : D.bnds M.length ds = true) : settle 1 M (.ex c ds M) = .ex c ds M := by
  have := settle1x (X := []) (c := c) h
  rwa [List.append_nil] at this
/-- a def that leaves the store -/
theorem run1 {P : Fns} {u : Under} {N : Nat} {b : Ss} {ds : List D} {M X : Store} {d : D} (h : (execs P u b (startE N ds) M).toR = .ok d (M ++ X)) (hd : d.bnd M.length = true) : runF P u 1 N b ds M = .ok d M := by
  unfold runF
  rw [h, settle1 hd]
theorem run1' {P : Fns} {u : Under} {N : Nat} {b : Ss} {ds : List D} {M : Store} {d : D} (h : (execs P u b (startE N ds) M).toR = .ok d M) (hd : d.bnd M.length = true) : runF P u 1 N b ds M = .ok d M := by
  unfold runF
  rw [h, settle1' hd]
theorem run1x {P : Fns} {u : Under} {N c : Nat} {b : Ss} {ds es : List D} {M X : Store} (h : (execs P u b (startE N ds) M).toR = .ex c es (M ++ X)) (hd : D.bnds M.length es = true) : runF P u 1 N b ds M = .ex c es M := by
  unfold runF
  rw [h, settle1x hd]
theorem run1x' {P : Fns} {u : Under} {N c : Nat} {b : Ss} {ds es : List D} {M : Store} (h : (execs P u b (startE N ds) M).toR = .ex c es M) (hd : D.bnds M.length es = true) : runF P u 1 N b ds M = .ex c es M := by
  unfold runF
  rw [h, settle1x' hd]
/-- nothing of the store from n on is named below n -/
def Wf (M : Store) : Prop := storeBnd M.length M = true
theorem storeBnd_iff (n : Nat) : ∀ M : Store, storeBnd n M = true ↔ ∀ o ∈ M, o.bnd n = true
  | [] => by simp [storeBnd]
  | o :: M => by simp [storeBnd, storeBnd_iff n M]
theorem Wf.set {M : Store} {n : Nat} {o : MO} (h : Wf M) (ho : o.bnd M.length = true) : Wf (M.set n o) := by
  unfold Wf at *
  rw [storeBnd_iff] at *
  intro x hx
  rw [List.length_set]
  rcases List.mem_or_eq_of_mem_set hx with q | q
  · exact h x q
  · rw [q]; exact ho
mutual
theorem bnd_mono {m n : Nat} (hmn : m ≤ n) : ∀ d : D, d.bnd m = true → d.bnd n = true
  | .non, _ => rfl
  | .bl _, _ => rfl
  | .int _, _ => rfl
  | .str _, _ => rfl
  | .fn _, _ => rfl
  | .ty _, _ => rfl
  | .scr _, _ => rfl
  | .ref k, h => by
    simp only [D.bnd, decide_eq_true_eq] at h ⊢
    omega
  | .exc _ ds, h => by
    rw [D.bnd] at h ⊢
    exact bnds_mono hmn ds h
  | .tup ds, h => by
    rw [D.bnd] at h ⊢
    exact bnds_mono hmn ds h
  | .lst ds, h => by
    rw [D.bnd] at h ⊢
    exact bnds_mono hmn ds h
  | .key ds, h => by
    rw [D.bnd] at h ⊢
    exact bnds_mono hmn ds h
theorem bnds_mono {m n : Nat} (hmn : m ≤ n) : ∀ ds : List D, D.bnds m ds = true → D.bnds n ds = true
  | [], _ => rfl
  | d :: ds, h => by
    rw [D.bnds, Bool.and_eq_true] at h ⊢
    exact ⟨bnd_mono hmn d h.1, bnds_mono hmn ds h.2⟩
end
theorem kvs_mono {m n : Nat} (hmn : m ≤ n) : ∀ kvs : List (D × D), kvsBnd m kvs = true → kvsBnd n kvs = true
  | [], _ => rfl
  | (k, d) :: r, h => by
    rw [kvsBnd, Bool.and_eq_true] at h ⊢
    exact ⟨bnd_mono hmn d h.1, kvs_mono hmn r h.2⟩
theorem fs_mono {m n : Nat} (hmn : m ≤ n) : ∀ kvs : List (Nat × D), fsBnd m kvs = true → fsBnd n kvs = true
  | [], _ => rfl
  | (k, d) :: r, h => by
    rw [fsBnd, Bool.and_eq_true] at h ⊢
    exact ⟨bnd_mono hmn d h.1, fs_mono hmn r h.2⟩
theorem mo_mono {m n : Nat} (hmn : m ≤ n) (o : MO) (h : o.bnd m = true) : o.bnd n = true := by
  cases o with
  | lst ds => exact bnds_mono hmn ds h
  | dict tk kvs => exact kvs_mono hmn kvs h
  | ins c fs => exact fs_mono hmn fs h
theorem Wf.app {M : Store} {o : MO} (h : Wf M) (ho : o.bnd (M.length + 1) = true) : Wf (M ++ [o]) := by
  unfold Wf at *
  rw [storeBnd_iff] at *
  intro x hx
  rw [List.length_append, List.length_singleton]
  rcases List.mem_append.mp hx with q | q
  · exact mo_mono (by omega) x (h x q)
  · rw [List.mem_singleton.mp q]; exact ho
theorem settle2 {M M' : Store} {d : D} (hl : M.length ≤ M'.length) (hb : storeBnd M.length (M'.take M.length) = true) (h : d.bnd M.length = true) : settle 2 M (.ok d M') = .ok d (M'.take M.length) := by
  unfold settle
  rw [if_neg (by decide)]
  have e1 : stays 2 M M' = some (M'.take M.length) := by
    unfold stays
    rw [if_neg (by decide), if_pos ⟨hl, hb⟩]
  have e2 : freeze M.length M' d = some d := by
    unfold freeze
    rw [if_pos h]
  simp only [e1, e2]
/-- a def that changes one object, and drops what it made -/
theorem run2 {P : Fns} {u : Under} {N n : Nat} {b : Ss} {ds : List D} {M X : Store} {o : MO} {d : D} (w : Wf M) (ho : o.bnd M.length = true) (h : (execs P u b (startE N ds) M).toR = .ok d (M.set n o ++ X)) (hd : d.bnd M.length = true) :
    runF P u 2 N b ds M = .ok d (M.set n o) := by
  unfold runF
  have e : (M.set n o ++ X).take M.length = M.set n o := by
    rw [List.take_append_of_le_length (by simp), List.take_of_length_le (by simp)]
  rw [h, settle2 (by simp) (by
    rw [e]
    have := w.set (n := n) ho
    unfold Wf at this
    rwa [List.length_set] at this) hd, e]
theorem run2' {P : Fns} {u : Under} {N n : Nat} {b : Ss} {ds : List D} {M : Store} {o : MO} {d : D} (w : Wf M) (ho : o.bnd M.length = true) (h : (execs P u b (startE N ds) M).toR = .ok d (M.set n o)) (hd : d.bnd M.length = true) :
    runF P u 2 N b ds M = .ok d (M.set n o) := run2 (X := []) w ho (by rw [h, List.append_nil]) hd
theorem settle0 {M : Store} {r : R D} : settle 0 M r = r := by
  unfold settle
  rw [if_pos rfl]
/-! ### comprehensions -/
theorem comp_map {g : Option Nat} {all : List D} {f : D → Store → R (Option D)} {h : D → Option D} {M : Store} (hg : guard g all M) : ∀ (xs acc : List D), (∀ x ∈ xs, f x M = .ok (h x) M) → acc.length + xs.length ≤ line →
    comp g all f xs acc M = .ok (acc ++ xs.filterMap h) M
  | [], acc, _, _ => by
    rw [comp, if_pos hg]
    simp
  | x :: xs, acc, hf, hl => by
    rw [List.length_cons] at hl
    rw [comp, if_pos ⟨hg, by omega⟩, hf x List.mem_cons_self, noEx_ok, R.bind_ok, List.filterMap_cons]
    cases e : h x with
    | none =>
      simp only
      exact comp_map hg xs acc (fun y hy => hf y (List.mem_cons_of_mem _ hy)) (by omega)
    | some d =>
      simp only
      rw [comp_map hg xs (acc ++ [d]) (fun y hy => hf y (List.mem_cons_of_mem _ hy)) (by simp; omega)]
      simp
/-- each turn gives a value, and keeps the invariant -/
theorem comp_inv {g : Option Nat} {all : List D} {f : D → Store → R (Option D)} {I : Store → Prop} {Q : D → D → Prop} (hg : ∀ M, I M → guard g all M) : ∀ (xs acc : List D) (M : Store), I M → (∀ x ∈ xs, ∀ M, I M → ∃ d M', f x M = .ok (some d) M' ∧ I M' ∧ Q x d) → acc.length + xs.length ≤ line →
    ∃ ds M', comp g all f xs acc M = .ok (acc ++ ds) M' ∧ I M' ∧ ds.length = xs.length ∧ ∀ (i : Nat) (x d : D), xs[i]? = some x → ds[i]? = some d → Q x d
  | [], acc, M, hI, _, _ => by
    refine ⟨[], M, ?_, hI, rfl, fun i x d h => by simp at h⟩
    rw [comp, if_pos (hg M hI)]
    simp
  | x :: xs, acc, M, hI, hf, hl => by
    rw [List.length_cons] at hl
    obtain ⟨d, M1, e, hI1, hq⟩ := hf x List.mem_cons_self M hI
    obtain ⟨ds, M2, e2, hI2, hl2, hq2⟩ := comp_inv hg xs (acc ++ [d]) M1 hI1 (fun y hy => hf y (List.mem_cons_of_mem _ hy)) (by simp; omega)
    refine ⟨d :: ds, M2, ?_, hI2, by simp [hl2], fun i y z h1 h2 => ?_⟩
    · rw [comp, if_pos ⟨hg M hI, by omega⟩, e, noEx_ok, R.bind_ok]
      simp only
      rw [e2]
      simp
    · cases i with
      | zero => simp at h1 h2; subst h1 h2; exact hq
      | succ i => simp at h1 h2; exact hq2 i y z h1 h2
theorem dcomp_map {tk : Bool} {g : Option Nat} {all : List D} {f : D → Store → R (D × D)} {h : D → D × D} {M : Store} (hg : guard g all M) : ∀ (xs : List D) (acc : List (D × D)), (∀ x ∈ xs, f x M = .ok (h x) M ∧ putOk tk (h x).1 = true) → acc.length + xs.length ≤ line →
    dcomp tk g all f xs acc M = .ok (xs.foldl (fun m x => putKv m (h x).1 (h x).2) acc) M
  | [], acc, _, _ => by rw [dcomp, if_pos hg]; rfl
  | x :: xs, acc, hf, hl => by
    rw [List.length_cons] at hl
    obtain ⟨e, p⟩ := hf x List.mem_cons_self
    rw [dcomp, if_pos ⟨hg, by omega⟩, e, noEx_ok, R.bind_ok, if_pos p]
    have hlen : (putKv acc (h x).1 (h x).2).length ≤ acc.length + 1 := by
      unfold putKv
      split
      · simp
      · simp
    rw [dcomp_map hg xs _ (fun y hy => hf y (List.mem_cons_of_mem _ hy)) (by omega)]
    rfl
/-! ### loops -/
/-- a loop whose turns go on -/
theorem loop_inv {g : Option Nat} {all : List D} {f : D → DL.Env → Store → F} {xs0 : List D} (J : List D → DL.Env → Store → Prop) (hg : ∀ l ρ M, J l ρ M → guard g all M)
    (hf : ∀ (pre : List D) (x : D) (suf : List D) ρ M, pre ++ x :: suf = xs0 → J pre ρ M → ∃ ρ' M', (f x ρ M = .nx ρ' M' ∨ f x ρ M = .ct ρ' M') ∧ J (pre ++ [x]) ρ' M') : ∀ (xs pre : List D) (ρ : DL.Env) (M : Store), pre ++ xs = xs0 → J pre ρ M →
    ∃ ρ' M', loop g all f xs ρ M = .nx ρ' M' ∧ J xs0 ρ' M'
  | [], pre, ρ, M, e, hJ => ⟨ρ, M, by rw [loop, if_pos (hg _ _ _ hJ)], by rw [← e, List.append_nil]; exact hJ⟩
  | x :: xs, pre, ρ, M, e0, hJ => by
    obtain ⟨ρ1, M1, e, h1⟩ := hf pre x xs ρ M e0 hJ
    obtain ⟨ρ2, M2, e2, h2⟩ := loop_inv J hg hf xs (pre ++ [x]) ρ1 M1 (by rw [← e0]; simp) h1
    refine ⟨ρ2, M2, ?_, h2⟩
    rw [loop, if_pos (hg _ _ _ hJ)]
    rcases e with e | e
    · rw [e, turn_nx]; exact e2
    · rw [e, turn_ct]; exact e2
/-- from the start -/
theorem loop_all {g : Option Nat} {xs : List D} {f : D → DL.Env → Store → F} {ρ : DL.Env} {M : Store} (J : List D → DL.Env → Store → Prop) (hg : ∀ l ρ M, J l ρ M → guard g xs M) (h0 : J [] ρ M)
    (hf : ∀ (pre : List D) (x : D) (suf : List D) ρ M, pre ++ x :: suf = xs → J pre ρ M → ∃ ρ' M', (f x ρ M = .nx ρ' M' ∨ f x ρ M = .ct ρ' M') ∧ J (pre ++ [x]) ρ' M') :
    ∃ ρ' M', loop g xs f xs ρ M = .nx ρ' M' ∧ J xs ρ' M' := loop_inv J hg hf xs [] ρ M rfl h0
theorem loop_nil {g : Option Nat} {all : List D} {f : D → DL.Env → Store → F} {ρ : DL.Env} {M : Store} (hg : guard g all M) : loop g all f [] ρ M = .nx ρ M := by rw [loop, if_pos hg]
theorem loop_cons {g : Option Nat} {all : List D} {f : D → DL.Env → Store → F} {x : D} {xs : List D} {ρ : DL.Env} {M : Store} (hg : guard g all M) : loop g all f (x :: xs) ρ M = (f x ρ M).turn fun ρ' M' => loop g all f xs ρ' M' := by rw [loop, if_pos hg]
@[simp] theorem guard_none (all : List D) (M : Store) : guard none all M = True := rfl
@[simp] theorem guard_some (n : Nat) (all : List D) (M : Store) : guard (some n) all M = (M[n]? = some (.lst all)) := rfl
/-! ### equality -/
@[simp] theorem toPs_map (ds : List D) : D.toPs ds = ds.map D.toP := by
  induction ds with
  | nil => rfl
  | cons d ds ih => rw [D.toPs, ih]; rfl
theorem depths_le {n : Nat} : ∀ ds : List D, (∀ d ∈ ds, d.depth ≤ n) → D.depths ds ≤ n
  | [], _ => by rw [D.depths]; omega
  | d :: ds, h => by
    rw [D.depths]
    have h1 := h d List.mem_cons_self
    have h2 := depths_le ds fun x hx => h x (List.mem_cons_of_mem _ hx)
    omega
theorem eqv_str (x y : List Nat) : (D.str x).eqv (.str y) = decide (x = y) := by
  show PySem.PyData.eqv (.str ⟨x.toArray⟩) (.str ⟨y.toArray⟩) = _
  rw [PySem.PyData.eqv]
  by_cases h : x = y
  · subst h; simp
  · rw [decide_eq_false h]
    have : (⟨x.toArray⟩ : PySem.Str) ≠ ⟨y.toArray⟩ := fun q => h (by injection q with q; simpa using q)
    simpa using this
theorem eqv_int (x y : Int) : (D.int x).eqv (.int y) = decide (x = y) := by
  show PySem.PyData.eqv (.int x) (.int y) = _
  rw [PySem.PyData.eqv]
  rfl
def eqvs (xs ys : List D) : Bool := PySem.PyData.eqvAll (D.toPs xs) (D.toPs ys)
theorem eqvs_nil : eqvs [] [] = true := by unfold eqvs; rw [D.toPs, PySem.PyData.eqvAll]
theorem eqvs_nc (y : D) (ys : List D) : eqvs [] (y :: ys) = false := by unfold eqvs; rw [D.toPs, D.toPs, PySem.PyData.eqvAll]
theorem eqvs_cn (y : D) (ys : List D) : eqvs (y :: ys) [] = false := by unfold eqvs; rw [D.toPs, D.toPs, PySem.PyData.eqvAll]
theorem eqvs_cc (x y : D) (xs ys : List D) : eqvs (x :: xs) (y :: ys) = (x.eqv y && eqvs xs ys) := by
  unfold eqvs
  rw [D.toPs, D.toPs, PySem.PyData.eqvAll]
  rfl
theorem eqv_tk (x y : List D) : (D.tup x).eqv (.key y) = eqvs x y := by
  show PySem.PyData.eqv (D.toP (.tup x)) (D.toP (.key y)) = _
  rw [D.toP, D.toP, PySem.PyData.eqv]; rfl
theorem eqv_kk (x y : List D) : (D.key x).eqv (.key y) = eqvs x y := by
  show PySem.PyData.eqv (D.toP (.key x)) (D.toP (.key y)) = _
  rw [D.toP, D.toP, PySem.PyData.eqv]; rfl
theorem eqv_tt (x y : List D) : (D.tup x).eqv (.tup y) = eqvs x y := by
  show PySem.PyData.eqv (D.toP (.tup x)) (D.toP (.tup y)) = _
  rw [D.toP, D.toP, PySem.PyData.eqv]; rfl
theorem eqv_kt (x y : List D) : (D.key x).eqv (.tup y) = eqvs x y := by
  show PySem.PyData.eqv (D.toP (.key x)) (D.toP (.tup y)) = _
  rw [D.toP, D.toP, PySem.PyData.eqv]; rfl
theorem eqv_ll (x y : List D) : (D.lst x).eqv (.lst y) = eqvs x y := by
  show PySem.PyData.eqv (D.toP (.lst x)) (D.toP (.lst y)) = _
  rw [D.toP, D.toP, PySem.PyData.eqv]; rfl
theorem eqD_of {M : Store} {a b a' b' : D} (ha : rd M a = a') (hb : rd M b = b') (h : a'.okEq = true) (h2 : b'.okEq = true) : eqD M a b = some (a'.eqv b') := by
  unfold eqD
  dsimp only
  rw [ha, hb, if_pos (by rw [h, h2]; rfl)]
theorem ok_str (x : List Nat) : (D.str x).okEq = true := by simp [D.okEq, D.depth]
theorem ok_int (x : Int) : (D.int x).okEq = true := by simp [D.okEq, D.depth]
theorem ok_bl (x : Bool) : (D.bl x).okEq = true := by simp [D.okEq, D.depth]
@[simp] theorem eq_ss (x y : List Nat) (M : Store) : ev2 .eq (.str x) (.str y) M = some (.bl (decide (x = y))) := by
  show (eqD M (.str x) (.str y)).map D.bl = _
  rw [eqD_of (rd_str M x) (rd_str M y) (ok_str _) (ok_str _), eqv_str]
  rfl
@[simp] theorem ne_ss (x y : List Nat) (M : Store) : ev2 .ne (.str x) (.str y) M = some (.bl (!decide (x = y))) := by
  show (eqD M (.str x) (.str y)).map (fun k => D.bl (!k)) = _
  rw [eqD_of (rd_str M x) (rd_str M y) (ok_str _) (ok_str _), eqv_str]
  rfl
@[simp] theorem eq_ii (x y : Int) (M : Store) : ev2 .eq (.int x) (.int y) M = some (.bl (decide (x = y))) := by
  show (eqD M (.int x) (.int y)).map D.bl = _
  rw [eqD_of (rd_int M x) (rd_int M y) (ok_int _) (ok_int _), eqv_int]
  rfl
@[simp] theorem ne_ii (x y : Int) (M : Store) : ev2 .ne (.int x) (.int y) M = some (.bl (!decide (x = y))) := by
  show (eqD M (.int x) (.int y)).map (fun k => D.bl (!k)) = _
  rw [eqD_of (rd_int M x) (rd_int M y) (ok_int _) (ok_int _), eqv_int]
  rfl
theorem allB_map {α : Type} (p : α → Bool) : ∀ xs : List α, allB (xs.map fun x => .bl (p x)) = some (xs.all p)
  | [] => rfl
  | x :: xs => by
    show (allB (xs.map fun x => .bl (p x))).map (p x && ·) = _
    rw [allB_map p xs]
    rfl
theorem all_map {α : Type} (p : α → Bool) (xs : List α) (M : Store) : ev1 .all (.lst (xs.map fun x => .bl (p x))) M = some (.bl (xs.all p)) := by
  show (allB _).map D.bl = _
  rw [allB_map]
  rfl
theorem strsOf_map {α : Type} (f : α → List Nat) : ∀ xs : List α, strsOf (xs.map fun x => .str (f x)) = some (xs.map f)
  | [] => rfl
  | x :: xs => by
    show (strsOf (xs.map fun x => .str (f x))).map (f x :: ·) = _
    rw [strsOf_map f xs]
    rfl
/-! ### types -/
@[simp] theorem isT_str (x : List Nat) (M : Store) : ev1 (.isT "str") (.str x) M = some (.bl true) := rfl
@[simp] theorem isT_int (x : Int) (M : Store) : ev1 (.isT "int") (.int x) M = some (.bl true) := rfl
@[simp] theorem isT_tup (x : List D) (M : Store) : ev1 (.isT "tuple") (.tup x) M = some (.bl true) := rfl
@[simp] theorem isT_key (x : List D) (M : Store) : ev1 (.isT "tuple") (.key x) M = some (.bl true) := rfl
@[simp] theorem isTb_int (x : Int) (M : Store) : ev1 (.isT "bool") (.int x) M = some (.bl false) := rfl
@[simp] theorem isTb_bl (x : Bool) (M : Store) : ev1 (.isT "bool") (.bl x) M = some (.bl true) := rfl
@[simp] theorem isTi_bl (x : Bool) (M : Store) : ev1 (.isT "int") (.bl x) M = some (.bl true) := rfl
@[simp] theorem isTt_str (x : List Nat) (M : Store) : ev1 (.isT "tuple") (.str x) M = some (.bl false) := rfl
@[simp] theorem isTt_int (x : Int) (M : Store) : ev1 (.isT "tuple") (.int x) M = some (.bl false) := rfl
@[simp] theorem isTt_bl (x : Bool) (M : Store) : ev1 (.isT "tuple") (.bl x) M = some (.bl false) := rfl
@[simp] theorem isTt_non (M : Store) : ev1 (.isT "tuple") .non M = some (.bl false) := rfl
@[simp] theorem isTb_str (x : List Nat) (M : Store) : ev1 (.isT "bool") (.str x) M = some (.bl false) := rfl
@[simp] theorem isTs_int (x : Int) (M : Store) : ev1 (.isT "str") (.int x) M = some (.bl false) := rfl
@[simp] theorem isTs_bl (x : Bool) (M : Store) : ev1 (.isT "str") (.bl x) M = some (.bl false) := rfl
/-! ### len, index -/
theorem len_s {x : List Nat} (M : Store) (h : x.length ≤ line) : ev1 .len (.str x) M = some (.int x.length) := by
  show (if x.length ≤ line then _ else _) = _
  rw [if_pos h]
@[simp] theorem len_t (x : List D) (M : Store) : ev1 .len (.tup x) M = some (.int x.length) := rfl
@[simp] theorem len_k (x : List D) (M : Store) : ev1 .len (.key x) M = some (.int x.length) := rfl
@[simp] theorem len_l (x : List D) (M : Store) : ev1 .len (.lst x) M = some (.int x.length) := rfl
theorem len_r {n : Nat} {x : List D} {M : Store} (h : M[n]? = some (.lst x)) : ev1 .len (.ref n) M = some (.int x.length) := by
  unfold ev1
  rw [rk_ref h]
theorem nth_nat {α : Type} (xs : List α) (i : Nat) (h : i < xs.length) : nth xs (i : Int) = some xs[i] := by
  show L2.atI xs i = _
  unfold L2.atI L2.ixN
  rw [if_pos (by omega)]
  simp [h]
end PL
end
section
set_option Elab.async false
set_option linter.all false
set_option maxRecDepth 100000
set_option autoImplicit false
set_option maxHeartbeats 4000000
/-! PL2: the feed of a law: draws. -/
namespace PL
open DL
/-- the feed's object -/
def fdO (cs : List Int) (k r c : Int) : MO := .dict false [(.str [99, 101, 108, 108, 115], .lst (cs.map .int)), (.str [110, 101, 120, 116], .int k), (.str [114, 101, 115, 116], .int r), (.str [99, 111, 117, 110, 116], .int c)]
structure FeedAt (n : Nat) (M : Store) : Prop where
  ex : ∃ cs k r c, M[n]? = some (fdO cs k r c) ∧ 0 ≤ k ∧ 0 ≤ r
/-- the store, but for the feed -/
def FS (n : Nat) (M M' : Store) : Prop := ∃ cs k r c, M' = M.set n (fdO cs k r c) ∧ 0 ≤ k ∧ 0 ≤ r
theorem fdO_bnd (cs : List Int) (k r c : Int) (n : Nat) : (fdO cs k r c).bnd n = true := by
  have : D.bnds n (cs.map .int) = true := bnds_plain n _ ((plains_iff _).mpr fun d hd => by obtain ⟨i, _, rfl⟩ := List.mem_map.mp hd; rfl)
  simp [fdO, MO.bnd, kvsBnd, this]
theorem FeedAt.lt {n : Nat} {M : Store} (h : FeedAt n M) : n < M.length := by
  obtain ⟨_, _, _, _, e, _⟩ := h.ex
  exact (List.getElem?_eq_some_iff.mp e).1
theorem FS.feed {n : Nat} {M M' : Store} (h : FeedAt n M) (f : FS n M M') : FeedAt n M' := by
  obtain ⟨cs, k, r, c, rfl, h1, h2⟩ := f
  exact ⟨cs, k, r, c, List.getElem?_set_self h.lt, h1, h2⟩
theorem FS.wf {n : Nat} {M M' : Store} (w : Wf M) (f : FS n M M') : Wf M' := by
  obtain ⟨cs, k, r, c, rfl, h1, h2⟩ := f
  exact w.set (fdO_bnd _ _ _ _ _)
theorem FS.len {n : Nat} {M M' : Store} (f : FS n M M') : M'.length = M.length := by
  obtain ⟨cs, k, r, c, rfl, h1, h2⟩ := f
  simp
theorem FS.trans {n : Nat} {M M1 M2 : Store} (a : FS n M M1) (b : FS n M1 M2) : FS n M M2 := by
  obtain ⟨_, _, _, _, rfl, _⟩ := a
  obtain ⟨cs, k, r, c, rfl, h1, h2⟩ := b
  exact ⟨cs, k, r, c, by simp, h1, h2⟩
theorem FS.refl {n : Nat} {M : Store} (h : FeedAt n M) : FS n M M := by
  obtain ⟨cs, k, r, c, e, h1, h2⟩ := h.ex
  refine ⟨cs, k, r, c, ?_, h1, h2⟩
  apply List.ext_getElem?
  intro i
  rw [List.getElem?_set]
  split
  · rename_i q
    subst q
    rw [if_pos h.lt, e]
  · rfl
theorem FS.other {n m : Nat} {M M' : Store} (f : FS n M M') (h : n ≠ m) : M'[m]? = M[m]? := by
  obtain ⟨cs, k, r, c, rfl, h1, h2⟩ := f
  rw [List.getElem?_set_ne h]
/-- reads and stores of the feed -/
theorem keyS (tk : Bool) (x : List Nat) : keyOk false (.str x) = true := rfl
theorem fd_ix {cs : List Int} {k r c : Int} {n : Nat} {M : Store} (h : M[n]? = some (fdO cs k r c)) (x : List Nat) :
    ev2 .ix (.ref n) (.str x) M = look [(.str [99, 101, 108, 108, 115], .lst (cs.map .int)), (.str [110, 101, 120, 116], .int k), (.str [114, 101, 115, 116], .int r), (.str [99, 111, 117, 110, 116], .int c)] (.str x) := by
  unfold ev2
  rw [rk_dict h]
  simp only [h, fdO]
  rfl
theorem fd_cells {cs : List Int} {k r c : Int} {n : Nat} {M : Store} (h : M[n]? = some (fdO cs k r c)) : ev2 .ix (.ref n) (.str [99, 101, 108, 108, 115]) M = some (.lst (cs.map .int)) := by
  rw [fd_ix h]; simp [look, eqv_str]
theorem fd_next {cs : List Int} {k r c : Int} {n : Nat} {M : Store} (h : M[n]? = some (fdO cs k r c)) : ev2 .ix (.ref n) (.str [110, 101, 120, 116]) M = some (.int k) := by
  rw [fd_ix h]; simp [look, eqv_str]
theorem fd_rest {cs : List Int} {k r c : Int} {n : Nat} {M : Store} (h : M[n]? = some (fdO cs k r c)) : ev2 .ix (.ref n) (.str [114, 101, 115, 116]) M = some (.int r) := by
  rw [fd_ix h]; simp [look, eqv_str]
theorem fd_count {cs : List Int} {k r c : Int} {n : Nat} {M : Store} (h : M[n]? = some (fdO cs k r c)) : ev2 .ix (.ref n) (.str [99, 111, 117, 110, 116]) M = some (.int c) := by
  rw [fd_ix h]; simp [look, eqv_str]
theorem fd_put {cs : List Int} {k r c : Int} {n : Nat} {M : Store} (h : M[n]? = some (fdO cs k r c)) (x : List Nat) (d : D) :
    subD (.ref n) (.str x) d M = some (M.set n (.dict false (putKv [(.str [99, 101, 108, 108, 115], .lst (cs.map .int)), (.str [110, 101, 120, 116], .int k), (.str [114, 101, 115, 116], .int r), (.str [99, 111, 117, 110, 116], .int c)] (.str x) d))) := by
  unfold subD
  simp only [h, fdO]
  rw [if_pos (by simp [putOk, isKey, line])]
theorem fd_pnext {cs : List Int} {k r c k' : Int} {n : Nat} {M : Store} (h : M[n]? = some (fdO cs k r c)) : subD (.ref n) (.str [110, 101, 120, 116]) (.int k') M = some (M.set n (fdO cs k' r c)) := by
  rw [fd_put h]; simp [putKv, eqv_str, fdO]
theorem fd_prest {cs : List Int} {k r c k' : Int} {n : Nat} {M : Store} (h : M[n]? = some (fdO cs k r c)) : subD (.ref n) (.str [114, 101, 115, 116]) (.int k') M = some (M.set n (fdO cs k k' c)) := by
  rw [fd_put h]; simp [putKv, eqv_str, fdO]
theorem fd_pcount {cs : List Int} {k r c k' : Int} {n : Nat} {M : Store} (h : M[n]? = some (fdO cs k r c)) : subD (.ref n) (.str [99, 111, 117, 110, 116]) (.int k') M = some (M.set n (fdO cs k r k')) := by
  rw [fd_put h]; simp [putKv, eqv_str, fdO]
theorem set_at {n : Nat} {M : Store} {o : MO} (h : n < M.length) : (M.set n o)[n]? = some o := List.getElem?_set_self h
theorem cells_ix {cs : List Int} {M : Store} {k : Int} (h0 : 0 ≤ k) (h : k < cs.length) : ∃ z, ev2 .ix (.lst (cs.map .int)) (.int k) M = some (.int z) := by
  refine ⟨cs[k.toNat]'(by omega), ?_⟩
  show nth (cs.map D.int) k = _
  have e : (k.toNat : Int) = k := by omega
  have := nth_nat (cs.map D.int) k.toNat (by simp; omega)
  rw [e] at this
  rw [this]
  simp
theorem pow_10 (M : Store) : ev2 .pow (.int 10) (.int 18) M = some (.int 1000000000000000000) := by
  have : ev2 .pow (.int 10) (.int 18) M = if (0 : Int) ≤ 18 ∧ (18 : Int) ≤ 1000000 ∧ (10 : Int).natAbs < 2 ^ 64 then some (.int ((10 : Int) ^ (18 : Int).toNat)) else none := rfl
  rw [this, if_pos (by decide)]
  rfl
theorem small_l (i j : Int) (h : small j = true) : (small i || small j) = true := by rw [h]; simp
theorem small_of {i : Int} (h1 : -(2 ^ 64) < i) (h2 : i < 2 ^ 64) : small i = true := by
  unfold small
  rw [decide_eq_true h1, decide_eq_true h2]
  rfl

theorem draw_run {P : Fns} {u : Under} {n : Nat} {M : Store} {m : Int} (h : FeedAt n M) (w : Wf M) (m1 : 0 < m) (m2 : m < 1073741824) :
    ∃ v M', runF P u 2 7 KB.b_law_draw [.ref n, .int m] M = .ok (.int v) M' ∧ 0 ≤ v ∧ v < m ∧ FS n M M' := by
  obtain ⟨cs, k, r, c, e, hk, hr⟩ := h.ex
  have hn := h.lt
  have fin : ∀ (v : Int) cs' k' r' c', 0 ≤ v → v < m → 0 ≤ k' → 0 ≤ r' → (execs P u KB.b_law_draw (startE 7 [.ref n, .int m]) M).toR = .ok (.int v) (M.set n (fdO cs' k' r' c')) →
      ∃ v M', runF P u 2 7 KB.b_law_draw [.ref n, .int m] M = .ok (.int v) M' ∧ 0 ≤ v ∧ v < m ∧ FS n M M' := fun v cs' k' r' c' h1 h2 h3 h4 e =>
    ⟨v, _, run2' w (fdO_bnd _ _ _ _ _) e rfl, h1, h2, cs', k', r', c', rfl, h3, h4⟩
  have fin' : ∀ cs' k' r' c', 0 ≤ k' → 0 ≤ r' → (∃ v : Int, (0 ≤ v ∧ v < m) ∧ (execs P u KB.b_law_draw (startE 7 [.ref n, .int m]) M).toR = .ok (.int v) (M.set n (fdO cs' k' r' c'))) →
      ∃ v M', runF P u 2 7 KB.b_law_draw [.ref n, .int m] M = .ok (.int v) M' ∧ 0 ≤ v ∧ v < m ∧ FS n M M' := fun cs' k' r' c' h3 h4 ⟨v, h1, e⟩ => fin v cs' k' r' c' h1.1 h1.2 h3 h4 e
  have m0 : m ≠ 0 := by omega
  by_cases c1 : 0 < r
  · refine fin (r % m) cs k (r / m) (c + 1) (Int.emod_nonneg _ m0) (Int.emod_lt_of_pos _ m1) hk (Int.ediv_nonneg hr (by omega)) ?_
    simp [KB.b_law_draw, startE, fd_count e, fd_pcount e, fd_rest (set_at hn), fd_prest (set_at hn), c1, mod_ii _ m1, fdiv_ii _ ⟨m1, m2⟩]
  · by_cases c2 : k < cs.length ∧ ∃ z, ev2 .ix (.lst (cs.map .int)) (.int k) M = some (.int z) ∧ (1000000000000000000 : Int) ≤ z
    · obtain ⟨c2, z, ez, hz⟩ := c2
      have ez' : ∀ M', ev2 .ix (.lst (cs.map .int)) (.int k) M' = some (.int z) := fun M' => ez
      refine fin (z % m) cs (k + 1) (z / m) (c + 1) (Int.emod_nonneg _ m0) (Int.emod_lt_of_pos _ m1) (by omega) (Int.ediv_nonneg (by omega) (by omega)) ?_
      simp [KB.b_law_draw, startE, fd_count e, fd_pcount e, fd_rest (set_at hn), fd_prest (set_at hn), fd_cells (set_at hn), fd_next (set_at hn), fd_pnext (set_at hn), c1, c2, ez', hz, pow_10, mod_ii _ m1, fdiv_ii _ ⟨m1, m2⟩]
    · -- the mixed draw
      obtain ⟨z, hz⟩ : ∃ z : Int, (exec P u (.asg (.nm 4) (.ife (.o2 .gt (.o1 .len (.v 2)) (.c (.int 0))) (.o2 .ix (.v 2) (.o2 .mod (.o1 .int (.v 3)) (.o1 .len (.v 2)))) (.c (.int 271828)))) [some (.ref n), some (.int m), some (.lst (cs.map .int)), some (.int k), none, none, none] (M.set n (fdO cs (k + 1) r (c + 1)))) =
          .nx [some (.ref n), some (.int m), some (.lst (cs.map .int)), some (.int k), some (.int z), none, none] (M.set n (fdO cs (k + 1) r (c + 1))) := by
        by_cases c3 : 0 < cs.length
        · have p : (0 : Int) < cs.length := by omega
          obtain ⟨z, ez⟩ := cells_ix (cs := cs) (M := M.set n (fdO cs (k + 1) r (c + 1))) (k := k % cs.length) (Int.emod_nonneg _ (by omega)) (Int.emod_lt_of_pos _ p)
          exact ⟨z, by simp [p, c3, mod_ii _ p, ez]⟩
        · exact ⟨271828, by simp [c3]⟩
      have e0 : ∀ i, i < 3 → True := fun _ _ => trivial
      have test : (evB P (.and (.o2 .lt (.v 3) (.o1 .len (.v 2))) (.o2 .ge (.o2 .ix (.v 2) (.v 3)) (.o2 .pow (.c (.int 10)) (.c (.int 18))))) [some (.ref n), some (.int m), some (.lst (cs.map .int)), some (.int k), none, none, none] (M.set n (fdO cs (k + 1) r (c + 1)))) = .ok false (M.set n (fdO cs (k + 1) r (c + 1))) := by
        by_cases c3 : k < cs.length
        · obtain ⟨z, ez⟩ := cells_ix (cs := cs) (M := M) hk c3
          have ez' : ∀ M', ev2 .ix (.lst (cs.map .int)) (.int k) M' = some (.int z) := fun M' => ez
          have c4 : ¬ (1000000000000000000 : Int) ≤ z := fun q => c2 ⟨c3, z, ez, q⟩
          simp [c3, ez', pow_10, c4]
        · simp [c3]
      have s1 : small 3571 = true := small_of (by decide) (by decide)
      have s2 : small 104651 = true := small_of (by decide) (by decide)
      have s3 : small 7919 = true := small_of (by decide) (by decide)
      have s4 : small 613 = true := small_of (by decide) (by decide)
      have sm : ∀ x : Int, small (x % 2147483629) = true := fun x => small_of (by omega) (by omega)
      have sm' : ∀ x : Int, small (x % 2147483587) = true := fun x => small_of (by omega) (by omega)
      refine fin' cs (k + 1) r (c + 1) (by omega) hr ?_
      simp only [KB.b_law_draw, startE]
      simp [-evB_and, -exec_asg, fd_count e, fd_pcount e, fd_rest (set_at hn), fd_cells (set_at hn), fd_next (set_at hn), fd_pnext (set_at hn), c1, test, hz]
      simp [exec_asg, fd_count (set_at hn), mul_ii, mod_ii, fdiv_ii, s1, s2, s3, s4, sm, sm', m1]
      exact ⟨Int.emod_nonneg _ m0, Int.emod_lt_of_pos _ m1⟩
end PL
end
section
set_option Elab.async false
set_option linter.all false
set_option maxRecDepth 100000
set_option autoImplicit false
set_option maxHeartbeats 4000000
/-! PL3: the kinds: texts, pieces, rules, letters; a law's own sameness. -/
namespace PL
open DL
abbrev sg (c : Nat) : D := .str [c]
abbrev rl (r : List Nat × List Nat) : D := .key [.str r.1, .str r.2]
abbrev LET : List Nat := [97, 98, 99, 100, 101, 102, 103, 104, 105, 106, 107, 108, 109, 110, 111, 112, 113, 114, 115, 116, 117, 118, 119, 120, 121, 122]
abbrev MAN : List (List Nat) := [[114, 97, 110, 107, 101, 100], [114, 105, 103, 104, 116, 114, 97, 110, 107, 101, 100], [108, 101, 102, 116, 109, 111, 115, 116], [114, 105, 103, 104, 116, 109, 111, 115, 116], [111, 110, 99, 101]]
def low (c : Nat) : Bool := decide (c ∈ LET)
theorem low_iff (c : Nat) : low c = true ↔ 97 ≤ c ∧ c ≤ 122 := by
  unfold low
  rw [decide_eq_true_eq]
  constructor
  · intro h
    simp only [List.mem_cons, List.not_mem_nil, or_false] at h
    omega
  · intro h
    simp only [List.mem_cons, List.not_mem_nil, or_false]
    omega
/-- a piece -/
def pc (x : List Nat) : Bool := x.all low && decide (x ≠ [])
/-- a rule of these letters -/
def ruleOf (L : List Nat) (r : List Nat × List Nat) : Bool := pc r.1 && pc r.2 && (r.1.all (decide <| · ∈ L) && r.2.all (decide <| · ∈ L))
/-! ### data of tuples and texts -/
mutual
def Dat : D → Bool
  | .non => true
  | .bl _ => true
  | .int _ => true
  | .str _ => true
  | .tup ds => Dats ds
  | .key ds => Dats ds
  | .lst _ => false
  | .ref _ => false
  | .fn _ => false
  | .ty _ => false
  | .exc _ _ => false
  | .scr _ => false
def Dats : List D → Bool
  | [] => true
  | d :: ds => Dat d && Dats ds
end
mutual
theorem dat_plain : ∀ d : D, Dat d = true → d.plain = true
  | .non, _ => rfl
  | .bl _, _ => rfl
  | .int _, _ => rfl
  | .str _, _ => rfl
  | .fn _, h => by cases h
  | .ty _, h => by cases h
  | .scr _, h => by cases h
  | .ref _, h => by cases h
  | .exc _ _, h => by cases h
  | .lst _, h => by cases h
  | .tup ds, h => by
    rw [Dat] at h
    rw [D.plain]
    exact dats_plain ds h
  | .key ds, h => by
    rw [Dat] at h
    rw [D.plain]
    exact dats_plain ds h
theorem dats_plain : ∀ ds : List D, Dats ds = true → D.plains ds = true
  | [], _ => rfl
  | d :: ds, h => by
    rw [Dats, Bool.and_eq_true] at h
    rw [D.plains, Bool.and_eq_true]
    exact ⟨dat_plain d h.1, dats_plain ds h.2⟩
end
theorem dats_iff : ∀ ds : List D, Dats ds = true ↔ ∀ d ∈ ds, Dat d = true
  | [] => by simp [Dats]
  | d :: ds => by simp [Dats, dats_iff ds]
@[simp] theorem dat_non : Dat .non = true := rfl
@[simp] theorem dat_bl (b : Bool) : Dat (.bl b) = true := rfl
@[simp] theorem dat_int (b : Int) : Dat (.int b) = true := rfl
@[simp] theorem dat_str (b : List Nat) : Dat (.str b) = true := rfl
@[simp] theorem dat_tup (b : List D) : Dat (.tup b) = Dats b := by rw [Dat]
@[simp] theorem dat_key (b : List D) : Dat (.key b) = Dats b := by rw [Dat]
@[simp] theorem dats_nil : Dats [] = true := rfl
@[simp] theorem dats_cons (d : D) (ds : List D) : Dats (d :: ds) = (Dat d && Dats ds) := by rw [Dats]
theorem dats_sg (L : List Nat) : Dats (L.map sg) = true := (dats_iff _).mpr fun d h => by obtain ⟨c, _, rfl⟩ := List.mem_map.mp h; rfl
theorem dats_rl (R : List (List Nat × List Nat)) : Dats (R.map rl) = true := (dats_iff _).mpr fun d h => by obtain ⟨c, _, rfl⟩ := List.mem_map.mp h; rfl
theorem bnds_dats {n : Nat} {ds : List D} (h : Dats ds = true) : D.bnds n ds = true := bnds_plain n ds (dats_plain ds h)
theorem bnd_dat {n : Nat} {d : D} (h : Dat d = true) : d.bnd n = true := bnd_plain n d (dat_plain d h)
/-! ### depth -/
theorem depth_tup (ds : List D) : D.depth (.tup ds) = D.depths ds + 1 := by rw [D.depth]
theorem depth_key (ds : List D) : D.depth (.key ds) = D.depths ds + 1 := by rw [D.depth]
theorem depth_lst (ds : List D) : D.depth (.lst ds) = D.depths ds + 1 := by rw [D.depth]
theorem depth_rl (r : List Nat × List Nat) : (rl r).depth = 1 := by simp [rl, depth_key, D.depths, D.depth]
theorem depths_sg (L : List Nat) : D.depths (L.map sg) ≤ 0 := depths_le _ fun d h => by obtain ⟨c, _, rfl⟩ := List.mem_map.mp h; simp [D.depth]
theorem depths_rl (R : List (List Nat × List Nat)) : D.depths (R.map rl) ≤ 1 := depths_le _ fun d h => by obtain ⟨c, _, rfl⟩ := List.mem_map.mp h; rw [depth_rl]; omega
theorem ok_tup {ds : List D} (h : D.plains ds = true) (hd : D.depths ds ≤ 63) : (D.tup ds).okEq = true := by simp [D.okEq, depth_tup, h]; omega
theorem ok_key {ds : List D} (h : D.plains ds = true) (hd : D.depths ds ≤ 63) : (D.key ds).okEq = true := by simp [D.okEq, depth_key, h]; omega
theorem ok_lst {ds : List D} (h : D.plains ds = true) (hd : D.depths ds ≤ 63) : (D.lst ds).okEq = true := by simp [D.okEq, depth_lst, h]; omega
theorem ok_rl (r : List Nat × List Nat) : (rl r).okEq = true := ok_key rfl (by simp [D.depths, D.depth])
/-! ### membership -/
theorem any_eqv {α : Type} (f : α → D) (a : α) (h : ∀ b, (f b).eqv (f a) = true ↔ b = a) (xs : List α) [Decidable (a ∈ xs)] : ((xs.map f).any fun z => z.eqv (f a)) = decide (a ∈ xs) := by
  rw [Bool.eq_iff_iff, decide_eq_true_eq, List.any_eq_true]
  constructor
  · rintro ⟨z, hz, e⟩
    obtain ⟨b, hb, rfl⟩ := List.mem_map.mp hz
    rw [← (h b).mp e]
    exact hb
  · intro ha
    exact ⟨f a, List.mem_map.mpr ⟨a, ha, rfl⟩, (h a).mpr rfl⟩
theorem rl_eqv (a b : List Nat × List Nat) : (rl a).eqv (rl b) = decide (a = b) := by
  rw [eqv_kk, eqvs_cc, eqvs_cc, eqvs_nil, eqv_str, eqv_str]
  obtain ⟨a1, a2⟩ := a
  obtain ⟨b1, b2⟩ := b
  by_cases h1 : a1 = b1 <;> by_cases h2 : a2 = b2 <;> simp [h1, h2]
theorem sg_eqv (a b : Nat) : (sg a).eqv (sg b) = decide (a = b) := by
  rw [eqv_str]
  by_cases h : a = b <;> simp [h]
theorem isin_tup {ds : List D} {a : D} {M : Store} (h : (D.tup ds).okEq = true) (ha : rd M a = a) (h2 : a.okEq = true) : ev2 .isin a (.tup ds) M = some (.bl (ds.any fun z => z.eqv a)) := by
  show (ev2.isinD M a (.tup ds)).map D.bl = _
  unfold ev2.isinD
  rw [rk_tup]
  simp only [ha]
  rw [if_pos (by rw [h, h2]; rfl)]
  rfl
theorem notin_of {a b : D} {M : Store} {k : Bool} (h : ev2 .isin a b M = some (.bl k)) : ev2 .notin a b M = some (.bl (!k)) := by
  have h : (ev2.isinD M a b).map D.bl = some (.bl k) := h
  show (ev2.isinD M a b).map (fun k => D.bl (!k)) = _
  cases e : ev2.isinD M a b with
  | none => rw [e] at h; cases h
  | some x => rw [e] at h; cases h; rfl
theorem in_key {ds : List D} {a : D} {M : Store} : ev2 .isin a (.key ds) M = ev2 .isin a (.tup ds) M := by
  show (ev2.isinD M a (.key ds)).map D.bl = (ev2.isinD M a (.tup ds)).map D.bl
  unfold ev2.isinD
  rw [rk_key, rk_tup]
@[simp] theorem in_sg (c : Nat) (L : List Nat) (M : Store) : ev2 .isin (.str [c]) (.tup (L.map sg)) M = some (.bl (decide (c ∈ L))) := by
  rw [isin_tup (ok_tup (dats_plain _ (dats_sg L)) (by have := depths_sg L; omega)) rfl (ok_str _), any_eqv sg c (fun b => by rw [sg_eqv, decide_eq_true_eq])]
@[simp] theorem nin_sg (c : Nat) (L : List Nat) (M : Store) : ev2 .notin (.str [c]) (.tup (L.map sg)) M = some (.bl (!decide (c ∈ L))) := notin_of (in_sg c L M)
theorem in_rl {d : D} (r : List Nat × List Nat) (R : List (List Nat × List Nat)) (M : Store) (h : asTup d = some (R.map rl)) : ev2 .isin (rl r) d M = some (.bl (decide (r ∈ R))) := by
  have key : ev2 .isin (rl r) (.tup (R.map rl)) M = some (.bl (decide (r ∈ R))) := by
    rw [isin_tup (ok_tup (dats_plain _ (dats_rl R)) (by have := depths_rl R; omega)) rfl (ok_rl _), any_eqv rl r (fun b => by rw [rl_eqv, decide_eq_true_eq])]
  cases d with
  | tup ds => cases h; exact key
  | key ds => cases h; rw [in_key]; exact key
  | _ => cases h
theorem nin_rl {d : D} (r : List Nat × List Nat) (R : List (List Nat × List Nat)) (M : Store) (h : asTup d = some (R.map rl)) : ev2 .notin (rl r) d M = some (.bl (!decide (r ∈ R))) := notin_of (in_rl r R M h)
@[simp] theorem in_str (c : Nat) (t : List Nat) (M : Store) : ev2 .isin (.str [c]) (.str t) M = some (.bl (decide (c ∈ t))) := rfl
@[simp] theorem nin_str (c : Nat) (t : List Nat) (M : Store) : ev2 .notin (.str [c]) (.str t) M = some (.bl (!decide (c ∈ t))) := rfl
theorem walked_str {x : List Nat} (M : Store) (h : x.length ≤ line) : walked M (.str x) = some (letters x, none) := by
  show (if x.length ≤ line then _ else _) = _
  rw [if_pos h]
@[simp] theorem walked_tup (x : List D) (M : Store) : walked M (.tup x) = some (x, none) := rfl
@[simp] theorem walked_key (x : List D) (M : Store) : walked M (.key x) = some (x, none) := rfl
@[simp] theorem walked_lst (x : List D) (M : Store) : walked M (.lst x) = some (x, none) := rfl
/-- a list of bools by a test on each item -/
theorem comp_bools {α : Type} {g : Option Nat} {all : List D} {f : D → Store → R (Option D)} {M : Store} (c : α → D) (p : α → Bool) (hg : guard g all M) (xs : List α) (hf : ∀ x ∈ xs, f (c x) M = .ok (some (.bl (p x))) M) (hl : xs.length ≤ line) :
    comp g all f (xs.map c) [] M = .ok (xs.map fun x => .bl (p x)) M := by
  have key : ∀ (xs : List α) (acc : List D), (∀ x ∈ xs, f (c x) M = .ok (some (.bl (p x))) M) → acc.length + xs.length ≤ line → comp g all f (xs.map c) acc M = .ok (acc ++ xs.map fun x => .bl (p x)) M := by
    intro xs
    induction xs with
    | nil =>
      intro acc _ _
      rw [List.map_nil, comp, if_pos hg]
      simp
    | cons x xs ih =>
      intro acc hf hl
      rw [List.length_cons] at hl
      rw [List.map_cons, comp, if_pos ⟨hg, by omega⟩, hf x List.mem_cons_self, noEx_ok, R.bind_ok]
      simp only
      rw [ih (acc ++ [D.bl (p x)]) (fun y hy => hf y (List.mem_cons_of_mem _ hy)) (by simp; omega)]
      simp
  have := key xs [] hf (by simpa using hl)
  simpa using this
theorem comp_vals {α : Type} {g : Option Nat} {all : List D} {f : D → Store → R (Option D)} {M : Store} (c : α → D) (p : α → Option D) (hg : guard g all M) (xs : List α) (hf : ∀ x ∈ xs, f (c x) M = .ok (p x) M) (hl : xs.length ≤ line) :
    comp g all f (xs.map c) [] M = .ok (xs.filterMap p) M := by
  have key : ∀ (xs : List α) (acc : List D), (∀ x ∈ xs, f (c x) M = .ok (p x) M) → acc.length + xs.length ≤ line → comp g all f (xs.map c) acc M = .ok (acc ++ xs.filterMap p) M := by
    intro xs
    induction xs with
    | nil =>
      intro acc _ _
      rw [List.map_nil, comp, if_pos hg]
      simp
    | cons x xs ih =>
      intro acc hf hl
      rw [List.length_cons] at hl
      rw [List.map_cons, comp, if_pos ⟨hg, by omega⟩, hf x List.mem_cons_self, noEx_ok, R.bind_ok, List.filterMap_cons]
      cases e : p x with
      | none =>
        simp only
        exact ih acc (fun y hy => hf y (List.mem_cons_of_mem _ hy)) (by omega)
      | some d =>
        simp only
        rw [ih (acc ++ [d]) (fun y hy => hf y (List.mem_cons_of_mem _ hy)) (by simp; omega)]
        simp
  have := key xs [] hf (by simpa using hl)
  simpa using this
section
variable {P : Fns} {u : Under} {M : Store}
/-! ### the defs of kinds -/
def IsNumber (S : List D → Store → R D) : Prop := ∀ (i : Int) (M : Store), S [.int i] M = .ok (.bl (decide (0 ≤ i))) M
def IsInteger (S : List D → Store → R D) : Prop := ∀ (i : Int) (M : Store), S [.int i] M = .ok (.bl true) M
def IsText (S : List D → Store → R D) : Prop := ∀ (x : List Nat) (M : Store), x.length ≤ line → S [.str x] M = .ok (.bl (x.all low)) M
def IsPiece (S : List D → Store → R D) : Prop := ∀ (x : List Nat) (M : Store), x.length ≤ line → S [.str x] M = .ok (.bl (pc x)) M
def IsLetter (S : List D → Store → R D) : Prop := ∀ (c : Nat) (M : Store), S [.str [c]] M = .ok (.bl (low c)) M
def rOk (r : List Nat × List Nat) : Prop := r.1.length ≤ line ∧ r.2.length ≤ line
def IsRow (S : List D → Store → R D) : Prop := ∀ (r : List Nat × List Nat) (M : Store), rOk r → S [rl r] M = .ok (.bl (pc r.1 && pc r.2)) M
def IsManner (S : List D → Store → R D) : Prop := ∀ (x : List Nat) (M : Store), S [.str x] M = .ok (.bl (decide (x ∈ MAN))) M
def IsTextOf (S : List D → Store → R D) : Prop := ∀ (x L : List Nat) (M : Store), x.length ≤ line → S [.str x, .tup (L.map sg)] M = .ok (.bl (x.all low && x.all (decide <| · ∈ L))) M
def IsRuleOf (S : List D → Store → R D) : Prop := ∀ (r : List Nat × List Nat) (L : List Nat) (M : Store), rOk r → S [rl r, .tup (L.map sg)] M = .ok (.bl (ruleOf L r)) M
theorem isInteger_run : IsInteger (runF P u 1 1 KB.b_is_integer) := fun i M => run1' (by simp [KB.b_is_integer, startE]) rfl
theorem isNumber_run {f : Nat} (h : IsInteger (P.S f)) : IsNumber (runF P u 1 1 (KB.b_is_number f)) := fun i M => run1' (by simp [KB.b_is_number, startE, h i]) rfl
theorem isText_run {g : Nat} (h : P.G g = some (.str LET)) : IsText (runF P u 1 2 (KB.b_is_text g)) := fun x M hx => by
  refine run1' ?_ rfl
  simp [KB.b_is_text, startE, h, walked_str M hx]
  rw [letters, comp_bools (g := none) sg low trivial x ?h hx]
  case h => intro c _; simp [low]
  simp [all_map]
theorem isPiece_run {f : Nat} (h : IsText (P.S f)) : IsPiece (runF P u 1 1 (KB.b_is_piece f)) := fun x M hx => by
  refine run1' ?_ rfl
  have h1 := h x M hx
  unfold pc
  generalize x.all low = b at *
  cases b <;> simp [KB.b_is_piece, startE, h1]
theorem isLetter_run {f : Nat} (h : IsText (P.S f)) : IsLetter (runF P u 1 1 (KB.b_is_letter f)) := fun c M => by
  refine run1' ?_ rfl
  simp [KB.b_is_letter, startE, h [c] M (by simp [line]), len_s (x := [c]) M (by simp [line])]
  cases low c <;> simp
theorem isRow_run {f : Nat} (h : IsPiece (P.S f)) : IsRow (runF P u 1 2 (KB.b_is_row f)) := fun r M hr => by
  refine run1' ?_ rfl
  simp [KB.b_is_row, startE]
  have e := comp_bools (g := none) (all := [.str r.1, .str r.2]) (f := fun x M => (P.S f [x] M).bind fun d M => .ok (some d) M) (M := M) D.str pc trivial [r.1, r.2] (fun x hx => by
    have hx : x.length ≤ line := by
      rcases List.mem_cons.mp hx with e | hx
      · rw [e]; exact hr.1
      · rw [List.mem_singleton.mp hx]; exact hr.2
    simp [h x M hx]) (by simp [line])
  simp only [List.map_cons, List.map_nil] at e
  rw [e]
  have := all_map pc [r.1, r.2] M
  simp only [List.map_cons, List.map_nil] at this
  simp [this]
def IsRule (S : List D → Store → R D) : Prop := ∀ (r : List Nat × List Nat) (M : Store), rOk r → S [rl r] M = .ok (.bl (pc r.1 && pc r.2)) M
theorem isRule_run {f : Nat} (h : IsRow (P.S f)) : IsRule (runF P u 1 1 (KB.b_is_rule f)) := fun r M hr => by
  refine run1' ?_ rfl
  have h1 := h r M hr
  generalize (pc r.1 && pc r.2) = b at *
  cases b <;> simp [KB.b_is_rule, startE, h1]
theorem isManner_run {g : Nat} (h : P.G g = some (.tup (MAN.map .str))) : IsManner (runF P u 1 1 (KB.b_is_manner g)) := fun x M => by
  refine run1' ?_ rfl
  have e : ev2 .isin (.str x) (.tup (MAN.map .str)) M = some (.bl (decide (x ∈ MAN))) := by
    rw [isin_tup (ok_tup (by simp) (by simp [D.depths, D.depth])) rfl (ok_str _), any_eqv D.str x (fun b => by rw [eqv_str, decide_eq_true_eq])]
  generalize D.tup (MAN.map D.str) = T at *
  generalize decide (x ∈ MAN) = b at *
  simp [KB.b_is_manner, startE, h, e]
theorem isTextOf_run {f : Nat} (h : IsText (P.S f)) : IsTextOf (runF P u 1 3 (KB.b_is_text_of f)) := fun x L M hx => by
  refine run1' ?_ rfl
  have h1 := h x M hx
  generalize x.all low = b at *
  cases b
  · simp [KB.b_is_text_of, startE, h1]
  · simp [KB.b_is_text_of, startE, h1, walked_str M hx]
    rw [letters, comp_bools (g := none) sg (decide <| · ∈ L) trivial x ?h hx]
    case h => intro c _; simp
    simp [all_map]
theorem isRuleOf_run {f f2 : Nat} (h : IsRule (P.S f)) (h2 : IsTextOf (P.S f2)) : IsRuleOf (runF P u 1 3 (KB.b_is_rule_of f f2)) := fun r L M hr => by
  refine run1' ?_ rfl
  have h1 := h r M hr
  unfold ruleOf
  cases hb : (pc r.1 && pc r.2)
  · rw [hb] at h1
    simp [KB.b_is_rule_of, startE, h1]
  · rw [hb] at h1
    simp [KB.b_is_rule_of, startE, h1]
    have p1 : r.1.all low = true := by simp [pc] at hb; simpa using hb.1.1
    have p2 : r.2.all low = true := by simp [pc] at hb; simpa using hb.2.1
    have e := comp_bools (g := none) (all := [.str r.1, .str r.2]) (f := fun x M => (P.S f2 [x, .tup (L.map sg)] M).bind fun d M => .ok (some d) M) (M := M) D.str (fun x => x.all (decide <| · ∈ L)) trivial [r.1, r.2] (fun x hx => by
      rcases List.mem_cons.mp hx with e | hx
      · rw [e, h2 r.1 L M hr.1, p1]; rfl
      · rw [List.mem_singleton.mp hx, h2 r.2 L M hr.2, p2]; rfl) (by simp [line])
    simp only [List.map_cons, List.map_nil] at e
    rw [e]
    have := all_map (fun x : List Nat => x.all (decide <| · ∈ L)) [r.1, r.2] M
    simp only [List.map_cons, List.map_nil] at this
    simp [this]
end
end PL
end
section
set_option Elab.async false
set_option linter.all false
set_option maxRecDepth 100000
set_option autoImplicit false
set_option maxHeartbeats 4000000
/-! PL4: slices and sums; changes of tables. -/
namespace PL
open DL
/-! ### slices -/
theorem cut_to {α : Type} (xs : List α) (k : Nat) : cut xs none (some (k : Int)) = xs.take k := by
  unfold cut clip
  rw [HT.sIx_none, HT.sIx_nat]
  simp
theorem cut_from {α : Type} (xs : List α) (k : Nat) : cut xs (some (k : Int)) none = xs.drop k := by
  unfold cut clip
  rw [HT.sIx_none, HT.sIx_nat]
  by_cases h : k ≤ xs.length
  · rw [Nat.min_eq_left h, List.take_of_length_le (by simp)]
  · rw [Nat.min_eq_right (by omega), Nat.sub_self, List.take_zero, List.drop_eq_nil_of_le (by omega)]
theorem cut_mid {α : Type} (xs : List α) (i j : Nat) : cut xs (some (i : Int)) (some (j : Int)) = (xs.drop i).take (j - i) := by
  unfold cut clip
  rw [HT.sIx_nat, HT.sIx_nat]
  by_cases h : i ≤ xs.length
  · rw [Nat.min_eq_left h]
    by_cases h2 : j ≤ xs.length
    · rw [Nat.min_eq_left h2]
    · rw [Nat.min_eq_right (by omega), List.take_of_length_le (by simp), List.take_of_length_le (by simp; omega)]
  · rw [Nat.min_eq_right (by omega : xs.length ≤ i), List.drop_eq_nil_of_le (by omega), List.drop_eq_nil_of_le (by omega), List.take_nil, List.take_nil]
theorem asTup_rd {d : D} {ds : List D} (h : asTup d = some ds) (M : Store) : rd M d = d := by cases d <;> first | rfl | cases h
theorem asTup_rk {d : D} {ds : List D} (h : asTup d = some ds) (M : Store) : rk M d = .tup ds := by
  cases d with
  | tup x => cases h; rfl
  | key x => cases h; rfl
  | _ => cases h
theorem slice_as {d : D} {ds : List D} (h : asTup d = some ds) (lo hi : Option Int) (M : Store) :
    sliceI d lo hi M = some (if clip ds.length 0 lo = 0 ∧ clip ds.length ds.length hi = ds.length then d else .tup (cut ds lo hi)) := by
  cases d with
  | tup x => cases h; rfl
  | key x => cases h; rfl
  | _ => cases h
theorem cut_all {α : Type} {xs : List α} {lo hi : Option Int} (h : clip xs.length 0 lo = 0 ∧ clip xs.length xs.length hi = xs.length) : cut xs lo hi = xs := by
  unfold cut
  rw [h.1, h.2]
  simp
theorem slice_ex {d : D} {ds : List D} (h : asTup d = some ds) (lo hi : Option Int) (M : Store) : ∃ d', sliceI d lo hi M = some d' ∧ asTup d' = some (cut ds lo hi) := by
  rw [slice_as h]
  split
  · rename_i q
    exact ⟨d, rfl, by rw [h, cut_all q]⟩
  · exact ⟨_, rfl, rfl⟩
theorem slice_tup (ds : List D) (lo hi : Option Int) (M : Store) : sliceI (.tup ds) lo hi M = some (.tup (cut ds lo hi)) := by
  rw [slice_as (ds := ds) rfl]
  split
  · rename_i q
    rw [cut_all q]
  · rfl
@[simp] theorem slice_lst (ds : List D) (lo hi : Option Int) (M : Store) : sliceI (.lst ds) lo hi M = some (.lst (cut ds lo hi)) := rfl
theorem slice_str {x : List Nat} (lo hi : Option Int) (M : Store) (h : x.length ≤ line) : sliceI (.str x) lo hi M = some (.str (cut x lo hi)) := by
  show (if x.length ≤ line then _ else _) = _
  rw [if_pos h]
@[simp] theorem partB_f (d : D) : partB false d = some none := rfl
@[simp] theorem partB_t (i : Int) : partB true (.int i) = some (some i) := rfl
theorem cut_map {α β : Type} (f : α → β) (xs : List α) (lo hi : Option Int) : cut (xs.map f) lo hi = (cut xs lo hi).map f := by
  unfold cut
  simp
/-! ### sums -/
theorem add_as {d e : D} {x y : List D} (h : asTup d = some x) (k : asTup e = some y) (hl : x.length + y.length ≤ line) (M : Store) : ∃ z, ev2 .add d e M = some z ∧ asTup z = some (x ++ y) := by
  have key : ev2 .add d e M = some (if x.isEmpty then e else if y.isEmpty then d else .tup (x ++ y)) := by
    cases d with
    | tup a =>
      cases h
      cases e with
      | tup b => cases k; show (if _ then _ else _) = _; rw [if_pos hl]; rfl
      | key b => cases k; show (if _ then _ else _) = _; rw [if_pos hl]; rfl
      | _ => cases k
    | key a =>
      cases h
      cases e with
      | tup b => cases k; show (if _ then _ else _) = _; rw [if_pos hl]; rfl
      | key b => cases k; show (if _ then _ else _) = _; rw [if_pos hl]; rfl
      | _ => cases k
    | _ => cases h
  rw [key]
  refine ⟨_, rfl, ?_⟩
  cases x with
  | nil => simpa using k
  | cons a x =>
    cases y with
    | nil => simpa using h
    | cons b y => rfl
theorem add_tt {x y : List D} (M : Store) (hl : x.length + y.length ≤ line) : ev2 .add (.tup x) (.tup y) M = some (.tup (x ++ y)) := by
  show (if _ then _ else _) = _
  rw [if_pos hl]
  cases x with
  | nil => rfl
  | cons a x =>
    cases y with
    | nil => simp
    | cons b y => rfl
theorem add_ss {x y : List Nat} (M : Store) (hl : x.length + y.length ≤ line) : ev2 .add (.str x) (.str y) M = some (.str (x ++ y)) := by
  show (if _ then _ else _) = _
  rw [if_pos hl]
theorem add_ll {x y : List D} (M : Store) (hl : x.length + y.length ≤ line) : ev2 .add (.lst x) (.lst y) M = some (.lst (x ++ y)) := by
  show (if _ then _ else _) = _
  rw [if_pos hl]
theorem items_as {d : D} {ds : List D} (h : asTup d = some ds) (M : Store) : itemsOf M d = some ds := by
  unfold itemsOf
  rw [asTup_rk h]
@[simp] theorem items_tup (ds : List D) (M : Store) : itemsOf M (.tup ds) = some ds := rfl
@[simp] theorem items_key (ds : List D) (M : Store) : itemsOf M (.key ds) = some ds := rfl
@[simp] theorem items_lst (ds : List D) (M : Store) : itemsOf M (.lst ds) = some ds := rfl
theorem len_as {d : D} {ds : List D} (h : asTup d = some ds) (M : Store) : ev1 .len d M = some (.int ds.length) := by
  cases d with
  | tup x => cases h; rfl
  | key x => cases h; rfl
  | _ => cases h
theorem isT_as {d : D} {ds : List D} (h : asTup d = some ds) (M : Store) : ev1 (.isT "tuple") d M = some (.bl true) := by
  cases d with
  | tup x => cases h; rfl
  | key x => cases h; rfl
  | _ => cases h
theorem walked_as {d : D} {ds : List D} (h : asTup d = some ds) (M : Store) : walked M d = some (ds, none) := by
  cases d with
  | tup x => cases h; rfl
  | key x => cases h; rfl
  | _ => cases h
theorem bnd_as {d : D} {ds : List D} (h : asTup d = some ds) (n : Nat) : d.bnd n = D.bnds n ds := by
  cases d with
  | tup x => cases h; exact bnd_tup n _
  | key x => cases h; exact bnd_key n _
  | _ => cases h
theorem dat_as {d : D} {ds : List D} (h : asTup d = some ds) : Dat d = Dats ds := by
  cases d with
  | tup x => cases h; exact dat_tup _
  | key x => cases h; exact dat_key _
  | _ => cases h
theorem toP_as {d : D} {ds : List D} (h : asTup d = some ds) : d.toP = .tuple (ds.map D.toP) := by
  cases d with
  | tup x => cases h; rw [D.toP, toPs_map]
  | key x => cases h; rw [D.toP, toPs_map]
  | _ => cases h
theorem depth_as {d : D} {ds : List D} (h : asTup d = some ds) : d.depth = D.depths ds + 1 := by
  cases d with
  | tup x => cases h; exact depth_tup _
  | key x => cases h; exact depth_key _
  | _ => cases h
theorem ix_as {d : D} {ds : List D} (h : asTup d = some ds) (i : Int) (M : Store) : ev2 .ix d (.int i) M = nth ds i := by
  cases d with
  | tup x => cases h; rfl
  | key x => cases h; rfl
  | _ => cases h
@[simp] theorem ix_tup (ds : List D) (i : Int) (M : Store) : ev2 .ix (.tup ds) (.int i) M = nth ds i := rfl
@[simp] theorem ix_key (ds : List D) (i : Int) (M : Store) : ev2 .ix (.key ds) (.int i) M = nth ds i := rfl
@[simp] theorem ix_lst (ds : List D) (i : Int) (M : Store) : ev2 .ix (.lst ds) (.int i) M = nth ds i := rfl
@[simp] theorem nth0 {α : Type} (x : α) (xs : List α) : nth (x :: xs) 0 = some x := by
  have := nth_nat (x :: xs) 0 (by simp)
  simpa using this
@[simp] theorem nth1 {α : Type} (x y : α) (xs : List α) : nth (x :: y :: xs) 1 = some y := by
  have := nth_nat (x :: y :: xs) 1 (by simp)
  simpa using this
@[simp] theorem nth2 {α : Type} (x y z : α) (xs : List α) : nth (x :: y :: z :: xs) 2 = some z := by
  have := nth_nat (x :: y :: z :: xs) 2 (by simp)
  simpa using this
theorem nth_map {α β : Type} (f : α → β) (xs : List α) (k : Nat) (h : k < xs.length) : nth (xs.map f) (k : Int) = some (f xs[k]) := by
  rw [nth_nat _ k (by simpa using h)]
  simp
@[simp] theorem tupleK_lst (ds : List D) (M : Store) : ev1 .tupleK (.lst ds) M = some (.key ds) := rfl
@[simp] theorem tuple_lst (ds : List D) (M : Store) : ev1 .tuple (.lst ds) M = some (.tup ds) := rfl
theorem ne_nat {a b : Nat} : ((a : Int) = (b : Int)) ↔ a = b := by omega
/-! ### the changes -/
def Req (c : Nat) (S : List D → Store → R D) : Prop := ∀ (w : List Nat) (M : Store), S [.bl true, .str w] M = .ok .non M ∧ S [.bl false, .str w] M = .ex c [.str w, .int (-1)] M
abbrev tabD (L : List Nat) (rs : D) (m : List Nat) : D := .key [.tup (L.map sg), rs, .str m]
theorem bnd_tab {L : List Nat} {rs : D} {R : List (List Nat × List Nat)} {m : List Nat} {n : Nat} (h : asTup rs = some (R.map rl)) : (tabD L rs m).bnd n = true := by
  rw [bnd_key, bnds_cons, bnds_cons, bnds_cons, bnd_tup, bnd_as h, bnds_dats (dats_sg L), bnds_dats (dats_rl R)]
  rfl
section
variable {P : Fns} {u : Under}
theorem req_run {c : Nat} : Req c (runF P u 1 2 (KB.b_require_usable c)) := fun w M => by
  refine ⟨run1' (by simp [KB.b_require_usable, startE]) rfl, run1x' (by simp [KB.b_require_usable, startE]) rfl⟩
/-- what with_rule is due -/
def putR (R : List (List Nat × List Nat)) (r : List Nat × List Nat) (k : Nat) : List (List Nat × List Nat) := R.take k ++ r :: R.drop k
def bad (c : Nat) (w : List Nat) (M : Store) : R D := .ex c [.str w, .int (-1)] M
abbrev wRule : List Nat := [114, 117, 108, 101]
abbrev wRank : List Nat := [114, 97, 110, 107]
abbrev wManner : List Nat := [109, 97, 110, 110, 101, 114]
abbrev wLetters : List Nat := [108, 101, 116, 116, 101, 114, 115]
abbrev wN : List Nat := [110]
structure WithRule (c : Nat) (S : List D → Store → R D) : Prop where
  put : ∀ (L : List Nat) (rs : D) (R : List (List Nat × List Nat)) (m : List Nat) (r : List Nat × List Nat) (k : Nat) (M : Store), asTup rs = some (R.map rl) → rOk r → R.length < line → ruleOf L r = true → r ∉ R → k ≤ R.length →
    S [tabD L rs m, rl r, .int k] M = .ok (tabD L (.key ((putR R r k).map rl)) m) M
  end_ : ∀ (L : List Nat) (rs : D) (R : List (List Nat × List Nat)) (m : List Nat) (r : List Nat × List Nat) (M : Store), asTup rs = some (R.map rl) → rOk r → R.length < line → ruleOf L r = true → r ∉ R →
    S [tabD L rs m, rl r, .non] M = .ok (tabD L (.key ((R ++ [r]).map rl)) m) M
  noR : ∀ (L : List Nat) (rs : D) (R : List (List Nat × List Nat)) (m : List Nat) (r : List Nat × List Nat) (k : Nat) (M : Store), asTup rs = some (R.map rl) → rOk r → ¬ (ruleOf L r = true ∧ r ∉ R) → S [tabD L rs m, rl r, .int k] M = bad c wRule M
  noK : ∀ (L : List Nat) (rs : D) (R : List (List Nat × List Nat)) (m : List Nat) (r : List Nat × List Nat) (k : Nat) (M : Store), asTup rs = some (R.map rl) → rOk r → ruleOf L r = true → r ∉ R → ¬ k ≤ R.length → S [tabD L rs m, rl r, .int k] M = bad c wRank M
theorem withRule_run {f1 f2 f3 c : Nat} (h1 : IsNumber (P.S f1)) (h2 : Req c (P.S f2)) (h3 : IsRuleOf (P.S f3)) : WithRule c (runF P u 1 7 (KB.b_with_rule f1 f2 f3)) where
  put := fun L rs R m r k M hR hr hl ho hn hk => by
    obtain ⟨d1, e1, a1⟩ := slice_ex hR none (some (k : Int)) M
    obtain ⟨d2, e2, a2⟩ := slice_ex hR (some (k : Int)) none M
    rw [cut_to] at a1
    rw [cut_from] at a2
    have hlen : ((R.map rl).take k).length + 1 + ((R.map rl).drop k).length ≤ line := by simp; omega
    refine run1' ?_ (bnd_tab rfl)
    simp [KB.b_with_rule, startE, h1 _ _, h3 r L _ hr, (h2 _ _).1, ho, nin_rl r R M hR, hn, len_as hR, e1, e2, items_as a1, items_as a2, hk]
    rw [if_pos (by omega)]
    simp [line, putR]
  end_ := fun L rs R m r M hR hr hl ho hn => by
    obtain ⟨d1, e1, a1⟩ := slice_ex hR none (some (R.length : Int)) M
    obtain ⟨d2, e2, a2⟩ := slice_ex hR (some (R.length : Int)) none M
    rw [cut_to] at a1
    rw [cut_from] at a2
    refine run1' ?_ (bnd_tab rfl)
    simp [KB.b_with_rule, startE, h1 _ _, h3 r L _ hr, (h2 _ _).1, ho, nin_rl r R M hR, hn, len_as hR, e1, e2, items_as a1, items_as a2]
    rw [if_pos (by omega)]
    simp [line]
    rw [List.take_of_length_le (by simp), List.drop_eq_nil_of_le (by simp)]
  noR := fun L rs R m r k M hR hr ho => by
    refine run1x' ?_ rfl
    by_cases h : ruleOf L r = true
    · have hn : r ∈ R := by
        by_cases q : r ∈ R
        · exact q
        · exact absurd ⟨h, q⟩ ho
      simp [KB.b_with_rule, startE, h3 r L _ hr, (h2 _ _).2, h, nin_rl r R M hR, hn]
    · have h : ruleOf L r = false := by simpa using h
      simp [KB.b_with_rule, startE, h3 r L _ hr, (h2 _ _).2, h]
  noK := fun L rs R m r k M hR hr ho hn hk => by
    refine run1x' ?_ rfl
    simp [KB.b_with_rule, startE, h1 _ _, h3 r L _ hr, (h2 _ _).1, (h2 _ _).2, ho, nin_rl r R M hR, hn, len_as hR, hk]
def without (R : List (List Nat × List Nat)) (k : Nat) : List (List Nat × List Nat) := R.take k ++ R.drop (k + 1)
structure WithoutRule (c : Nat) (S : List D → Store → R D) : Prop where
  out : ∀ (L : List Nat) (rs : D) (R : List (List Nat × List Nat)) (m : List Nat) (k : Nat) (M : Store), asTup rs = some (R.map rl) → R.length < line → k < R.length →
    S [tabD L rs m, .int k] M = .ok (tabD L (.key ((without R k).map rl)) m) M
  no : ∀ (L : List Nat) (rs : D) (R : List (List Nat × List Nat)) (m : List Nat) (k : Nat) (M : Store), asTup rs = some (R.map rl) → ¬ k < R.length → S [tabD L rs m, .int k] M = bad c wRank M
theorem num_without : ∀ (R : List (List Nat × List Nat)) (k j : Nat), ((R.map rl).zipIdx j).filterMap (fun p => if p.2 = k + j then none else some p.1) = ((without R k).map rl)
  | [], k, j => by simp [without]
  | r :: R, 0, j => by
    have key : ∀ (R : List (List Nat × List Nat)) (i j : Nat), j < i → ((R.map rl).zipIdx i).filterMap (fun p => if p.2 = j then none else some p.1) = R.map rl := by
      intro R
      induction R with
      | nil => intro i j _; simp
      | cons r R ih =>
        intro i j h
        simp only [List.map_cons, List.zipIdx_cons, List.filterMap_cons]
        rw [if_neg (by omega)]
        simp only
        rw [ih (i + 1) j (by omega)]
    simp only [List.map_cons, List.zipIdx_cons, List.filterMap_cons]
    rw [if_pos (by omega)]
    simp only
    rw [show 0 + j = j by omega, key R (j + 1) j (by omega)]
    simp [without]
  | r :: R, k + 1, j => by
    simp only [List.map_cons, List.zipIdx_cons, List.filterMap_cons]
    rw [if_neg (by omega)]
    simp only
    have ih := num_without R k (j + 1)
    rw [show k + 1 + j = k + (j + 1) by omega, ih]
    simp [without]
theorem withoutRule_run {f1 f2 c : Nat} (h1 : IsNumber (P.S f1)) (h2 : Req c (P.S f2)) : WithoutRule c (runF P u 1 7 (KB.b_without_rule f1 f2)) where
  out := fun L rs R m k M hR hl hk => by
    refine run1' ?_ (bnd_tab rfl)
    have en : ∀ (ρ : DL.Env), evI P (.enm (.v 3)) (some (tabD L rs m) :: some (.int k) :: some (.tup (L.map sg)) :: some rs :: ρ) M = .ok (numT (R.map rl), none) M := fun ρ => by
      cases rs with
      | tup x => cases hR; simp
      | key x => cases hR; simp
      | _ => cases hR
    simp [KB.b_without_rule, startE, h1 _ _, (h2 _ _).1, len_as hR, hk, -evI_enm, en]
    rw [numT, comp_vals (g := none) (fun p : D × Nat => .key [.int (p.2 : Nat), p.1]) (fun p => if p.2 = k then none else some p.1) trivial _ ?h (by simp; omega)]
    case h =>
      intro p _
      by_cases e : p.2 = k <;> simp [e, ne_nat]
    have nw := num_without R k 0
    simp only [Nat.add_zero] at nw
    simp [nw, tupleK_lst, line]
  no := fun L rs R m k M hR hk => by
    refine run1x' ?_ rfl
    simp [KB.b_without_rule, startE, h1 _ _, (h2 _ _).2, len_as hR, hk]
/-- the rule of this rank and the next one exchanged -/
def swapR (R : List (List Nat × List Nat)) (k : Nat) : List (List Nat × List Nat) := R.take k ++ (R.drop (k + 1)).take 1 ++ (R.drop k).take 1 ++ R.drop (k + 2)
theorem swapR_get {R : List (List Nat × List Nat)} {k : Nat} (h : k + 1 < R.length) : swapR R k = (R.set k R[k + 1]).set (k + 1) R[k] := by
  unfold swapR
  have e1 : (R.drop (k + 1)).take 1 = [R[k + 1]] := by
    rw [List.drop_eq_getElem_cons h]; rfl
  have e2 : (R.drop k).take 1 = [R[k]] := by
    rw [List.drop_eq_getElem_cons (by omega)]; rfl
  rw [e1, e2]
  apply List.ext_getElem?
  intro i
  simp only [List.getElem?_append, List.getElem?_set, List.length_append, List.length_take, List.length_singleton, List.length_set, List.getElem?_take, List.getElem?_drop]
  by_cases c1 : i < k
  · rw [if_pos (by omega), if_pos (by omega), if_pos (by omega), if_pos c1, if_neg (by omega), if_neg (by omega)]
  · by_cases c2 : i = k
    · subst c2
      rw [if_pos (by omega), if_pos (by omega), if_neg (by omega), if_neg (by omega), if_pos rfl, if_pos (by omega)]
      have : i - min i R.length = 0 := by omega
      simp [this]
    · by_cases c3 : i = k + 1
      · subst c3
        rw [if_pos (by omega), if_neg (by omega), if_pos rfl, if_pos (by omega)]
        have : k + 1 - (min k R.length + 1) = 0 := by omega
        simp [this]
      · rw [if_neg (by omega), if_neg (by omega), if_neg (by omega)]
        congr 1
        omega
theorem swapR_len {R : List (List Nat × List Nat)} {k : Nat} (h : k + 1 < R.length) : (swapR R k).length = R.length := by
  rw [swapR_get h]; simp
structure Exchanged (c : Nat) (S : List D → Store → R D) : Prop where
  sw : ∀ (L : List Nat) (rs : D) (R : List (List Nat × List Nat)) (m : List Nat) (k : Nat) (M : Store), asTup rs = some (R.map rl) → R.length < line → k + 1 < R.length →
    S [tabD L rs m, .int k] M = .ok (tabD L (.tup ((swapR R k).map rl)) m) M
  no : ∀ (L : List Nat) (rs : D) (R : List (List Nat × List Nat)) (m : List Nat) (k : Nat) (M : Store), asTup rs = some (R.map rl) → ¬ k + 1 < R.length → S [tabD L rs m, .int k] M = bad c wRank M
theorem place_nat {n k : Nat} (h : k < n) : place n (k : Int) = some k := by
  show L2.ixN n k = _
  unfold L2.ixN
  rw [if_pos (by omega), if_pos (by omega)]
  simp
theorem subD_lst {M : Store} {n k : Nat} {ds : List D} {d : D} (h : M[n]? = some (.lst ds)) (hk : k < ds.length) : subD (.ref n) (.int (k : Int)) d M = some (M.set n (.lst (ds.set k d))) := by
  unfold subD
  simp only [h, place_nat hk]
theorem exchanged_run {f1 f2 c : Nat} (h1 : IsNumber (P.S f1)) (h2 : Req c (P.S f2)) : Exchanged c (runF P u 1 6 (KB.b_exchanged f1 f2)) where
  sw := fun L rs R m k M hR hl hk => by
    refine run1 (X := [.lst ((swapR R k).map rl)]) ?_ (bnd_tab rfl)
    have g1 : ev2 .ix rs (.int ((k : Int) + 1)) M = some (rl R[k + 1]) := by
      rw [ix_as hR, show (k : Int) + 1 = ((k + 1 : Nat) : Int) by omega, nth_map rl R (k + 1) hk]
    have g2 : ev2 .ix rs (.int (k : Int)) M = some (rl R[k]) := by
      rw [ix_as hR, nth_map rl R k (by omega)]
    have g1' : ∀ M', ev2 .ix rs (.int ((k : Int) + 1)) M' = some (rl R[k + 1]) := fun M' => by rw [ix_as hR]; rw [ix_as hR] at g1; exact g1
    have g2' : ∀ M', ev2 .ix rs (.int (k : Int)) M' = some (rl R[k]) := fun M' => by rw [ix_as hR]; rw [ix_as hR] at g2; exact g2
    have s1 : subD (.ref M.length) (.int (k : Int)) (rl R[k + 1]) (M ++ [.lst (R.map rl)]) = some (M ++ [.lst ((R.set k R[k + 1]).map rl)]) := by
      rw [subD_lst (ds := R.map rl) (by simp) (by simp; omega)]
      simp [List.map_set]
    have s2 : subD (.ref M.length) (.int ((k : Int) + 1)) (rl R[k]) (M ++ [.lst ((R.set k R[k + 1]).map rl)]) = some (M ++ [.lst ((swapR R k).map rl)]) := by
      rw [show (k : Int) + 1 = ((k + 1 : Nat) : Int) by omega, subD_lst (ds := (R.set k R[k + 1]).map rl) (by simp) (by simp; omega), swapR_get hk]
      simp [List.map_set]
    have lt : (k : Int) + 1 < R.length := by omega
    have tu : ev1 .tuple (.ref M.length) (M ++ [.lst ((swapR R k).map rl)]) = some (.tup ((swapR R k).map rl)) := by
      unfold ev1
      rw [rd_ref (ds := (swapR R k).map rl) (by simp)]
    simp only [List.map_set] at s1 s2
    simp [KB.b_exchanged, startE, h1 _ _, (h2 _ _).1, len_as hR, lt, items_as hR, g1', g2', s1, s2, tu, line]
  no := fun L rs R m k M hR hk => by
    have lt : ¬ (k : Int) + 1 < R.length := by omega
    refine run1x' ?_ rfl
    simp [KB.b_exchanged, startE, h1 _ _, (h2 _ _).2, len_as hR, lt]
structure WithManner (c : Nat) (S : List D → Store → R D) : Prop where
  yes : ∀ (L : List Nat) (rs : D) (m w : List Nat) (R : List (List Nat × List Nat)) (M : Store), asTup rs = some (R.map rl) → w ∈ MAN → S [tabD L rs m, .str w] M = .ok (tabD L rs w) M
  no : ∀ (L : List Nat) (rs : D) (m w : List Nat) (R : List (List Nat × List Nat)) (M : Store), asTup rs = some (R.map rl) → w ∉ MAN → S [tabD L rs m, .str w] M = bad c wManner M
theorem withManner_run {f1 f2 c : Nat} (h1 : IsManner (P.S f1)) (h2 : Req c (P.S f2)) : WithManner c (runF P u 1 2 (KB.b_with_manner f1 f2)) where
  yes := fun L rs m w R M hR hw => by
    refine run1' ?_ (bnd_tab hR)
    have e := h1 w M
    rw [decide_eq_true hw] at e
    simp [KB.b_with_manner, startE, e, (h2 _ _).1, line]
  no := fun L rs m w R M hR hw => by
    refine run1x' ?_ rfl
    have e := h1 w M
    rw [decide_eq_false hw] at e
    simp [KB.b_with_manner, startE, e, (h2 _ _).2]
structure FirstRules (c : Nat) (S : List D → Store → R D) : Prop where
  yes : ∀ (L : List Nat) (rs : D) (R : List (List Nat × List Nat)) (m : List Nat) (k : Nat) (M : Store), asTup rs = some (R.map rl) → k ≤ R.length → ∃ rs', asTup rs' = some ((R.take k).map rl) ∧ S [tabD L rs m, .int k] M = .ok (tabD L rs' m) M
  no : ∀ (L : List Nat) (rs : D) (R : List (List Nat × List Nat)) (m : List Nat) (k : Nat) (M : Store), asTup rs = some (R.map rl) → ¬ k ≤ R.length → S [tabD L rs m, .int k] M = bad c wN M
theorem firstRules_run {f1 f2 c : Nat} (h1 : IsNumber (P.S f1)) (h2 : Req c (P.S f2)) : FirstRules c (runF P u 1 5 (KB.b_first_rules f1 f2)) where
  yes := fun L rs R m k M hR hk => by
    obtain ⟨d1, e1, a1⟩ := slice_ex hR none (some (k : Int)) M
    rw [cut_to] at a1
    have a1 : asTup d1 = some ((R.take k).map rl) := by rw [a1]; simp
    refine ⟨d1, a1, run1' ?_ (bnd_tab a1)⟩
    simp [KB.b_first_rules, startE, h1 _ _, (h2 _ _).1, len_as hR, e1, hk, line]
  no := fun L rs R m k M hR hk => by
    refine run1x' ?_ rfl
    simp [KB.b_first_rules, startE, h1 _ _, (h2 _ _).2, len_as hR, hk]
/-- ascending -/
def asc (L : List Nat) : Bool := (L.zip L.tail).all fun p => decide (p.1 < p.2)
def AreLetters (S : List D → Store → R D) : Prop := ∀ (L : List Nat) (M : Store), L.length ≤ line → (∀ c ∈ L, low c = true) → S [.tup (L.map sg)] M = .ok (.bl (decide (L ≠ []) && asc L)) M
@[simp] theorem ltN_sg (a b : Nat) : ltN [a] [b] = decide (a < b) := by
  simp only [ltN]
  by_cases h : a = b
  · simp [h]
  · rw [if_neg h]
theorem areLetters_run {f : Nat} (h : IsLetter (P.S f)) : AreLetters (runF P u 1 3 (KB.b_are_letters f)) := fun L M hl hL => by
  refine run1' ?_ rfl
  by_cases h0 : L = []
  · subst h0
    simp [KB.b_are_letters, startE, asc]
  have hz : zipT (L.map sg) (L.tail.map sg) = (L.zip L.tail).map fun p => .key [.str [p.1], .str [p.2]] := by
    unfold zipT
    rw [List.zip_map, List.map_map]
    rfl
  have c1 : cut (L.map sg) (some 1) none = L.tail.map sg := by
    have := cut_from (L.map sg) 1
    rw [← List.drop_one, List.map_drop]
    exact this
  have a1 : (L.all low) = true := by
    rw [List.all_eq_true]; exact hL
  have e1 := comp_bools (g := none) (all := L.map sg) (f := fun x M => (P.S f [x] M).bind fun d M => .ok (some d) M) (M := M) sg low trivial L (fun x _ => by simp [h x M]) hl
  have e2 : ∀ f : D → Store → R (Option D), (∀ p : Nat × Nat, f (.key [.str [p.1], .str [p.2]]) M = .ok (some (.bl (decide (p.1 < p.2)))) M) → comp none (zipT (L.map sg) (L.tail.map sg)) f (zipT (L.map sg) (L.tail.map sg)) [] M = .ok ((L.zip L.tail).map fun p => .bl (decide (p.1 < p.2))) M := fun f hf => by
    rw [hz, comp_bools (g := none) (fun p : Nat × Nat => .key [.str [p.1], .str [p.2]]) (fun p => decide (p.1 < p.2)) trivial _ (fun p _ => hf p) (by simp; omega)]
  have a2 := all_map low L M
  have a3 := all_map (fun p : Nat × Nat => decide (p.1 < p.2)) (L.zip L.tail) M
  rw [a1] at a2
  have ne : ¬ L.length = 0 := fun q => h0 (List.eq_nil_of_length_eq_zero q)
  have ac : asc L = (L.zip L.tail).all fun p => decide (p.1 < p.2) := rfl
  rw [ac, decide_eq_true h0]
  have hlen : (L.map sg).length = L.length := by simp
  generalize hT : L.map sg = T at *
  generalize hT3 : L.tail.map sg = T2 at *
  generalize hT2 : L.zip L.tail = Zs at *
  simp [KB.b_are_letters, startE, slice_tup, c1, e1, a2, hlen, ne_nat, h0, -List.all_eq_true]
  rw [e2 _ (fun p => by simp)]
  simp only [R.bind_ok, a3, ofO_some, R.toF_ok, F.seq_rt, toR_rt]
/-- these letters hold all of those -/
def subL (L L2 : List Nat) : Bool := L.all (decide <| · ∈ L2)
structure WithLetters (c : Nat) (S : List D → Store → R D) : Prop where
  yes : ∀ (L L2 : List Nat) (rs : D) (m : List Nat) (R : List (List Nat × List Nat)) (M : Store), asTup rs = some (R.map rl) → L.length ≤ line → L2.length ≤ line → (∀ c ∈ L2, low c = true) → L2 ≠ [] → asc L2 = true → subL L L2 = true →
    S [tabD L rs m, .tup (L2.map sg)] M = .ok (tabD L2 rs m) M
  no : ∀ (L L2 : List Nat) (rs : D) (m : List Nat) (R : List (List Nat × List Nat)) (M : Store), asTup rs = some (R.map rl) → L.length ≤ line → L2.length ≤ line → (∀ c ∈ L2, low c = true) → asc L2 = true → ¬ (L2 ≠ [] ∧ subL L L2 = true) →
    S [tabD L rs m, .tup (L2.map sg)] M = bad c wLetters M
theorem withLetters_run {f1 f2 c : Nat} (h1 : AreLetters (P.S f1)) (h2 : Req c (P.S f2)) : WithLetters c (runF P u 1 3 (KB.b_with_letters f1 f2)) := by
  have key : ∀ (L L2 : List Nat) (M : Store), L.length ≤ line → ∀ f : D → Store → R (Option D), (∀ x, f (.str [x]) M = .ok (some (.bl (decide (x ∈ L2)))) M) → comp none (L.map sg) f (L.map sg) [] M = .ok (L.map fun x => .bl (decide (x ∈ L2))) M := fun L L2 M hl f hf => by
    rw [comp_bools (g := none) sg (decide <| · ∈ L2) trivial L (fun c _ => hf c) hl]
  constructor
  · intro L L2 rs m R M hR hl hl2 hL2 hn ha hs
    have e := h1 L2 M hl2 hL2
    rw [decide_eq_true hn, ha] at e
    have a2 := all_map (decide <| · ∈ L2) L M
    have hs : (L.all (decide <| · ∈ L2)) = true := hs
    rw [hs] at a2
    have bt := bnd_tab (L := L2) (m := m) (n := M.length) hR
    refine run1' ?_ bt
    simp [KB.b_with_letters, startE, e, (h2 _ _).1]
    rw [key L L2 M hl _ (fun x => by simp)]
    simp [a2, (h2 _ _).1, line]
  · intro L L2 rs m R M hR hl hl2 hL2 ha ho
    have e := h1 L2 M hl2 hL2
    rw [ha] at e
    refine run1x' ?_ rfl
    by_cases hn : L2 ≠ []
    · rw [decide_eq_true hn] at e
      have hs : (L.all (decide <| · ∈ L2)) = false := by
        cases q : (L.all (decide <| · ∈ L2)) with
        | false => rfl
        | true => exact absurd ⟨hn, q⟩ ho
      have a2 := all_map (decide <| · ∈ L2) L M
      rw [hs] at a2
      simp [KB.b_with_letters, startE, e]
      rw [key L L2 M hl _ (fun x => by simp)]
      simp [a2, (h2 _ _).2]
    · rw [decide_eq_false hn] at e
      simp [KB.b_with_letters, startE, e, (h2 _ _).2]
end
end PL
end
section
set_option Elab.async false
set_option linter.all false
set_option maxRecDepth 100000
set_option autoImplicit false
set_option maxHeartbeats 4000000
/-! PL5: mirrors, new names, the checker of tables. -/
namespace PL
open DL
abbrev Ru := List Nat × List Nat
section
variable {P : Fns} {u : Under}
/-! ### mirrors -/
def mirR (r : Ru) : Ru := (r.2.reverse, r.1.reverse)
theorem back_s {x : List Nat} (M : Store) (h : x.length ≤ line) : backD (.str x) M = some (.str x.reverse) := by
  show (if x.length ≤ line then _ else _) = _
  rw [if_pos h]
def Mirrored (wl : List (List Nat × D)) (S : List D → Store → R D) : Prop := ∀ (L : List Nat) (rs : D) (R : List Ru) (m m2 : List Nat) (M : Store), asTup rs = some (R.map rl) → R.length ≤ line → (∀ r ∈ R, rOk r) → wl.lookup m = some (.str m2) →
    S [tabD L rs m] M = .ok (tabD L (.key ((R.map mirR).map rl)) m2) M
theorem mirrored_run {w f c : Nat} (h : Req c (P.S f)) : Mirrored (P.Wd w) (runF P u 1 6 (KB.b_mirrored w f)) := fun L rs R m m2 M hR hl hr hm => by
  refine run1' ?_ (bnd_tab rfl)
  have e0 : walked M rs = some (R.map rl, none) := walked_as hR M
  have e1 : winD false (P.Wd w) (.str m) = some (.bl true) := by simp [winD, hm]
  have e2 : wgetD (P.Wd w) (.str m) = some (.str m2) := hm
  simp [KB.b_mirrored, startE, e1, (h _ _).1, e0]
  rw [comp_vals (g := none) rl (fun r => some (rl (mirR r))) trivial R ?h hl]
  case h =>
    intro r hr'
    simp [back_s M (hr r hr').1, back_s M (hr r hr').2, line, mirR]
  simp [e2, line]
/-! ### new names -/
theorem dedup_id : ∀ xs : List (List Nat), xs.Nodup → dedup xs = xs
  | [], _ => rfl
  | x :: r, h => by
    obtain ⟨h1, h2⟩ := List.nodup_cons.mp h
    simp only [dedup]
    rw [if_neg h1, dedup_id r h2]
theorem sg_nodup {N : List Nat} (h : N.Nodup) : (N.map fun c => [c]).Nodup := by
  rw [List.Nodup, List.pairwise_map]
  exact h.imp fun {a b} q e => q (by injection e)
theorem lenSet_sg {N : List Nat} (M : Store) (h : N.Nodup) (hl : N.length < 60) : ev1 .lenSet (.tup (N.map sg)) M = some (.int N.length) := by
  show (match itemsOf M (.tup (N.map sg)) with | some ds => (match strsOf ds with | some xs => if xs.length < 60 && xs.all (fun x => x.length == 1) then some (D.int (dedup xs).length) else none | none => none) | none => none) = _
  rw [items_tup]
  simp only [sg, strsOf_map (fun c => [c]) N]
  rw [if_pos (by simp [hl]), dedup_id _ (sg_nodup h)]
  simp
def NamesFor (S : List D → Store → R D) : Prop := ∀ (N L : List Nat) (M : Store), N.Nodup → (∀ c ∈ N, low c = true) → N.length = L.length → N.length < 60 → S [.tup (N.map sg), .tup (L.map sg)] M = .ok (.bl true) M
theorem namesFor_run {f : Nat} (h : IsLetter (P.S f)) : NamesFor (runF P u 1 3 (KB.b_are_names_for f)) := fun N L M hn hN hl h60 => by
  refine run1' ?_ rfl
  have a1 : (N.all low) = true := by rw [List.all_eq_true]; exact hN
  have e1 : ∀ f : D → Store → R (Option D), (∀ c, f (.str [c]) M = .ok (some (.bl (low c))) M) → comp none (N.map sg) f (N.map sg) [] M = .ok (N.map fun c => .bl (low c)) M := fun f hf => by
    rw [comp_bools (g := none) sg low trivial N (fun c _ => hf c) (by simp [line]; omega)]
  have a2 := all_map low N M
  rw [a1] at a2
  have e3 := lenSet_sg M hn h60
  have hlen : (N.map sg).length = L.length := by simp [hl]
  have hlen2 : (L.map sg).length = L.length := by simp
  rw [hl] at e3
  generalize N.map sg = T at *
  generalize L.map sg = T2 at *
  simp [KB.b_are_names_for, startE]
  rw [e1 _ (fun c => by simp [h c M])]
  simp [a2, e3, hlen, hlen2]
/-- the new letter -/
def ren (L N : List Nat) (c : Nat) : Nat := ((L.zip N).lookup c).getD 0
def renR (L N : List Nat) (r : Ru) : Ru := (r.1.map (ren L N), r.2.map (ren L N))
theorem put_new {kvs : List (D × D)} {k v : D} (h : ∀ p ∈ kvs, p.1.eqv k = false) : putKv kvs k v = kvs ++ [(k, v)] := by
  unfold putKv
  rw [if_neg]
  intro q
  obtain ⟨p, hp, e⟩ := List.any_eq_true.mp q
  rw [h p hp] at e
  cases e
theorem fold_dict : ∀ (Zs As : List (Nat × Nat)), ((As ++ Zs).map (·.1)).Nodup → (Zs.map fun p => D.key [sg p.1, sg p.2]).foldl (fun m x => putKv m ((fun x : D => match x with | .key [a, b] => (a, b) | _ => (.non, .non)) x).1 ((fun x : D => match x with | .key [a, b] => (a, b) | _ => (.non, .non)) x).2) (As.map fun p => (sg p.1, sg p.2)) = (As ++ Zs).map fun p => (sg p.1, sg p.2)
  | [], As, _ => by simp
  | z :: Zs, As, h => by
    rw [List.map_cons, List.foldl_cons]
    have h1 : ∀ p ∈ As.map (fun p => (sg p.1, sg p.2)), p.1.eqv (sg z.1) = false := by
      intro p hp
      obtain ⟨q, hq, rfl⟩ := List.mem_map.mp hp
      show (sg q.1).eqv (sg z.1) = false
      rw [sg_eqv, decide_eq_false_iff_not]
      intro e
      rw [List.map_append, List.nodup_append] at h
      exact h.2.2 q.1 (List.mem_map.mpr ⟨q, hq, rfl⟩) z.1 (by simp) e
    simp only
    rw [put_new h1]
    have := fold_dict Zs (As ++ [z]) (by simpa using h)
    simpa using this
theorem look_map (c : Nat) : ∀ Zs : List (Nat × Nat), look (Zs.map fun p => (sg p.1, sg p.2)) (sg c) = (Zs.lookup c).map sg
  | [] => rfl
  | z :: Zs => by
    rw [List.map_cons]
    show (if (sg z.1).eqv (sg c) then some (sg z.2) else look _ _) = _
    rw [sg_eqv, List.lookup_cons]
    by_cases e : z.1 = c
    · subst e; simp
    · have : (c == z.1) = false := by simpa using fun q => e q.symm
      simp [e, this, look_map c Zs]
theorem lookup_in {c : Nat} : ∀ {L N : List Nat}, c ∈ L → N.length = L.length → ∃ d, (L.zip N).lookup c = some d
  | [], _, h, _ => by cases h
  | a :: L, [], _, h => by cases h
  | a :: L, b :: N, h, hl => by
    rw [List.zip_cons_cons, List.lookup_cons]
    by_cases e : c = a
    · subst e; simp
    · have : (c == a) = false := by simpa using e
      rw [this]
      simp only
      exact lookup_in ((List.mem_cons.mp h).resolve_left e) (by simpa using hl)
theorem sortC_eq : ∀ N : List Nat, sortS ltN (N.map fun c => [c]) = (sortS (fun a b => decide (a < b)) N).map fun c => [c]
  | [] => rfl
  | c :: N => by
    show insS ltN [c] (sortS ltN (N.map fun c => [c])) = _
    rw [sortC_eq N]
    show insS ltN [c] _ = (insS (fun a b => decide (a < b)) c (sortS (fun a b => decide (a < b)) N)).map fun c => [c]
    generalize sortS (fun a b => decide (a < b)) N = Z
    induction Z with
    | nil => rfl
    | cons z Z ih =>
      simp only [List.map_cons, insS, ltN_sg]
      by_cases h : z < c
      · simp [h, ih]
      · simp [h]
abbrev sortC (N : List Nat) : List Nat := sortS (fun a b => decide (a < b)) N
theorem insS_mem {lt : Nat → Nat → Bool} (x a : Nat) : ∀ ys, a ∈ insS lt x ys ↔ a = x ∨ a ∈ ys
  | [] => by simp [insS]
  | y :: r => by
    simp only [insS]
    split
    · rw [List.mem_cons, insS_mem x a r, List.mem_cons]
      constructor
      · rintro (h | h | h) <;> simp [h]
      · rintro (h | h | h) <;> simp [h]
    · rw [List.mem_cons]
theorem sortC_mem (a : Nat) : ∀ N, a ∈ sortC N ↔ a ∈ N
  | [] => by simp [sortC, sortS]
  | x :: N => by
    show a ∈ insS _ x (sortC N) ↔ _
    rw [insS_mem, sortC_mem a N, List.mem_cons]
theorem joinE : ∀ xs : List Nat, joinN [] (xs.map fun c => [c]) = xs
  | [] => rfl
  | [x] => rfl
  | x :: y :: xs => by
    have := joinE (y :: xs)
    show [x] ++ ([] ++ joinN [] ((y :: xs).map fun c => [c])) = _
    rw [this]
    rfl
theorem join_sg {xs : List Nat} (M : Store) (h : xs.length ≤ line) : ev2 .join (.str []) (.lst (xs.map sg)) M = some (.str xs) := by
  show (match strsOf (xs.map sg) with | some xs => if (joinN [] xs).length + ([] : List Nat).length ≤ line then some (D.str (joinN [] xs)) else none | none => none) = _
  rw [show (xs.map sg) = xs.map (fun c => D.str [c]) from rfl, strsOf_map (fun c => [c]) xs]
  simp only [joinE]
  rw [if_pos (by simpa using h)]
def Renamed (S : List D → Store → R D) : Prop := ∀ (L N : List Nat) (rs : D) (R : List Ru) (m : List Nat) (M : Store), asTup rs = some (R.map rl) → R.length ≤ line → (∀ r ∈ R, rOk r ∧ (∀ c ∈ r.1, c ∈ L) ∧ ∀ c ∈ r.2, c ∈ L) → L.Nodup → N.Nodup → (∀ c ∈ N, low c = true) → N.length = L.length → N.length < 60 →
    S [tabD L rs m, .tup (N.map sg)] M = .ok (tabD (sortC N) (.tup ((R.map (renR L N)).map rl)) m) M
theorem renamed_run {f1 f2 c : Nat} (h1 : NamesFor (P.S f1)) (h2 : Req c (P.S f2)) : Renamed (runF P u 1 12 (KB.b_renamed f1 f2)) := fun L N rs R m M hR hl hr nL nN hN hlen h60 => by
  refine run1 (X := [.dict false ((L.zip N).map fun p => (sg p.1, sg p.2))]) ?_ (bnd_tab rfl)
  have e0 : ∀ M, walked M rs = some (R.map rl, none) := walked_as hR
  have e1 := h1 N L M nN hN hlen h60
  have hz : zipT (L.map sg) (N.map sg) = (L.zip N).map fun p => .key [sg p.1, sg p.2] := by
    unfold zipT
    rw [List.zip_map, List.map_map]
    rfl
  have nz : ((L.zip N).map (·.1)).Nodup := by
    have : (L.zip N).map (·.1) = L := by
      rw [List.map_fst_zip]
      omega
    rw [this]; exact nL
  have e2 : ∀ f : D → Store → DL.R (D × D), (∀ a b : Nat, f (.key [.str [a], .str [b]]) M = .ok (.str [a], .str [b]) M) → dcomp false none (zipT (L.map sg) (N.map sg)) f (zipT (L.map sg) (N.map sg)) [] M = .ok ((L.zip N).map fun p => (sg p.1, sg p.2)) M := fun f hf => by
    rw [hz, dcomp_map (g := none) (h := fun x : D => match x with | .key [a, b] => (a, b) | _ => (.non, .non)) trivial _ [] (fun x hx => by
      obtain ⟨p, _, rfl⟩ := List.mem_map.mp hx
      exact ⟨hf p.1 p.2, rfl⟩) (by simp [line]; omega)]
    have := fold_dict (L.zip N) [] (by simpa using nz)
    simpa using this
  have e3 : ev1 .sorted (.tup (N.map sg)) M = some (.lst ((sortC N).map sg)) := by
    show (match itemsOf M (.tup (N.map sg)) with | some ds => (match strsOf ds with | some xs => some (D.lst ((sortS ltN xs).map .str)) | none => none) | none => none) = _
    rw [items_tup]
    simp only [show (N.map sg) = N.map (fun c => D.str [c]) from rfl, strsOf_map (fun c => [c]) N, sortC_eq]
    simp
  have e3' : ∀ M', ev1 .sorted (.tup (N.map sg)) M' = some (.lst ((sortC N).map sg)) := fun M' => e3
  simp [KB.b_renamed, startE, e1, (h2 _ _).1]
  rw [e2 _ (fun a b => by simp)]
  simp [e0]
  generalize hM1 : M ++ [MO.dict false ((L.zip N).map fun p => (sg p.1, sg p.2))] = M1
  have at1 : M1[M.length]? = some (.dict false ((L.zip N).map fun p => (sg p.1, sg p.2))) := by rw [← hM1]; simp
  have ix : ∀ c ∈ L, ev2 .ix (.ref M.length) (.str [c]) M1 = some (sg (ren L N c)) := fun c hc => by
    obtain ⟨d, hd⟩ := lookup_in hc hlen
    unfold ev2
    rw [rk_dict at1]
    simp only [at1]
    have k1 : keyOk false (D.str [c]) = true := rfl
    rw [if_pos k1]
    have := look_map c (L.zip N)
    rw [hd] at this
    rw [show (D.str [c]) = sg c from rfl, this]
    simp [ren, hd]
  have txt : ∀ x : List Nat, x.length ≤ line → (∀ c ∈ x, c ∈ L) → ∀ f : D → Store → DL.R (Option D), (∀ c, f (.str [c]) M1 = (ofO (ev2 .ix (.ref M.length) (.str [c]) M1) M1).bind fun d M => .ok (some d) M) →
      comp none (letters x) f (letters x) [] M1 = .ok ((x.map (ren L N)).map sg) M1 := fun x hx hc f hf => by
    rw [letters, comp_vals (g := none) sg (fun c => some (sg (ren L N c))) trivial x (fun c h => by rw [hf, ix c (hc c h)]; rfl) hx]
    simp
  have two : ∀ r ∈ R, ∀ f : D → Store → DL.R (Option D), (∀ x : List Nat, x.length ≤ line → (∀ c ∈ x, c ∈ L) → f (.str x) M1 = .ok (some (.str (x.map (ren L N)))) M1) → comp none [.str r.1, .str r.2] f [.str r.1, .str r.2] [] M1 = .ok [.str (renR L N r).1, .str (renR L N r).2] M1 := fun r h f hf => by
    obtain ⟨⟨q1, q2⟩, q3, q4⟩ := hr r h
    have := comp_map (g := none) (all := [.str r.1, .str r.2]) (f := f) (h := fun x => match x with | .str x => some (.str (x.map (ren L N))) | _ => none) (M := M1) trivial [.str r.1, .str r.2] [] (fun y hy => by
      rcases List.mem_cons.mp hy with e | hy
      · rw [e, hf r.1 q1 q3]
      · rw [List.mem_singleton.mp hy, hf r.2 q2 q4]) (by simp [line])
    simpa [renR] using this
  rw [comp_vals (g := none) rl (fun r => some (rl (renR L N r))) trivial R ?h hl]
  case h =>
    intro r hr'
    simp
    rw [two r hr' _ (fun x hx hc => by
      simp [walked_str M1 hx]
      rw [txt x hx hc _ (fun c => rfl)]
      simp only [DL.R.bind_ok]
      rw [join_sg M1 (by simpa using hx)]
      rfl)]
    simp
  simp [e3', line]
/-! ### the checker of tables -/
def RulesFault (S : List D → Store → DL.R D) : Prop := ∀ (L : List Nat) (rs : D) (R : List Ru) (M : Store), asTup rs = some (R.map rl) → R.length < line → (∀ r ∈ R, rOk r ∧ ruleOf L r = true) → R.Nodup → S [rs, .tup (L.map sg)] M = .ok .non M
theorem enm_as {P : Fns} {ρ : DL.Env} {M : Store} {e : E} {d : D} {ds : List D} (h : asTup d = some ds) (he : ev P e ρ M = .ok d M) : evI P (.enm e) ρ M = .ok (numT ds, none) M := by
  rw [evI_enm, he]
  cases d with
  | tup x => cases h; rfl
  | key x => cases h; rfl
  | _ => cases h
theorem look_rl (r : Ru) : ∀ R0 : List Ru, (look (R0.map fun r => (rl r, D.bl true)) (rl r)).isSome = decide (r ∈ R0)
  | [] => by simp [look]
  | q :: R0 => by
    rw [List.map_cons]
    show (if (rl q).eqv (rl r) then some (D.bl true) else look _ _).isSome = _
    rw [rl_eqv]
    by_cases e : q = r
    · subst e; simp
    · have : ¬ r = q := fun z => e z.symm
      simp [e, this, look_rl r R0]
theorem in_dict {M : Store} {n : Nat} {R0 : List Ru} (r : Ru) (h : M[n]? = some (.dict true (R0.map fun r => (rl r, D.bl true)))) : ev2 .isin (rl r) (.ref n) M = some (.bl (decide (r ∈ R0))) := by
  show (ev2.isinD M (rl r) (.ref n)).map D.bl = _
  unfold ev2.isinD
  rw [rk_dict h]
  simp only [h]
  rw [if_pos (show keyOk true (rl r) = true by simp [keyOk, isKey]), look_rl]
  rfl
theorem put_dict {M : Store} {n : Nat} {R0 : List Ru} (r : Ru) (h : M[n]? = some (.dict true (R0.map fun r => (rl r, D.bl true)))) (hr : r ∉ R0) (hl : R0.length < line) : subD (.ref n) (rl r) (.bl true) M = some (M.set n (.dict true ((R0 ++ [r]).map fun r => (rl r, D.bl true)))) := by
  unfold subD
  simp only [h]
  rw [if_pos (by simp [putOk, isKey, hl]), put_new]
  · simp
  · intro p hp
    obtain ⟨q, hq, rfl⟩ := List.mem_map.mp hp
    show (rl q).eqv (rl r) = false
    rw [rl_eqv, decide_eq_false_iff_not]
    intro e
    exact hr (e ▸ hq)
theorem seq_ex {α : Type} {A : F} {k : DL.Env → Store → F} {ρf : α → DL.Env} {Mf : α → Store} {r : DL.R D} (h : ∃ x, A = .nx (ρf x) (Mf x)) (h2 : ∀ x, (k (ρf x) (Mf x)).toR = r) : (A.seq k).toR = r := by
  obtain ⟨x, rfl⟩ := h
  exact h2 x
theorem rulesFault_run {f : Nat} (h : IsRuleOf (P.S f)) : RulesFault (runF P u 1 5 (KB.b_rules_fault f)) := fun L rs R M hR hl hr hn => by
  refine run1 (X := [.dict true (R.map fun r => (rl r, .bl true))]) ?_ rfl
  have en : ∀ (ρ : DL.Env) (M : Store), evI P (.enm (.v 0)) (some rs :: ρ) M = .ok (numT (R.map rl), none) M := fun ρ M => enm_as hR (by simp)
  have l1 : ∀ (Q : List Ru) (j : Nat) (all : List D) (g : D → DL.Env → Store → F) (a b : Option D), (∀ r ∈ Q, r ∈ R) → (∀ r ∈ R, ∀ i a b, g (.key [.int i, rl r]) [some rs, some (.tup (L.map sg)), a, b, none] M = .nx [some rs, some (.tup (L.map sg)), some (.int i), some (rl r), none] M) →
      ∃ x : Option D × Option D, loop none all g (((Q.map rl).zipIdx j).map fun p => .key [.int (p.2 : Nat), p.1]) [some rs, some (.tup (L.map sg)), a, b, none] M = .nx [some rs, some (.tup (L.map sg)), x.1, x.2, none] M := by
    intro Q
    induction Q with
    | nil => intro j all g a b _ _; exact ⟨(a, b), loop_nil trivial⟩
    | cons r Q ih =>
      intro j all g a b hQ hg
      obtain ⟨x, e⟩ := ih (j + 1) all g (some (.int j)) (some (rl r)) (fun q hq => hQ q (List.mem_cons_of_mem _ hq)) hg
      refine ⟨x, ?_⟩
      rw [List.map_cons, List.zipIdx_cons, List.map_cons, loop_cons (by trivial), hg r (hQ r List.mem_cons_self), turn_nx]
      exact e
  have l2 : ∀ (Q R0 : List Ru) (j : Nat) (all : List D) (g : D → DL.Env → Store → F) (a b : Option D), (R0 ++ Q).Nodup → (R0 ++ Q).length < line → (∀ (r : Ru) (R0 : List Ru) (i : Int) a b, r ∉ R0 → R0.length < line → g (.key [.int i, rl r]) [some rs, some (.tup (L.map sg)), a, b, some (.ref M.length)] (M ++ [.dict true (R0.map fun r => (rl r, .bl true))]) =
        .nx [some rs, some (.tup (L.map sg)), some (.int i), some (rl r), some (.ref M.length)] (M ++ [.dict true ((R0 ++ [r]).map fun r => (rl r, .bl true))])) →
      ∃ x : Option D × Option D, loop none all g (((Q.map rl).zipIdx j).map fun p => .key [.int (p.2 : Nat), p.1]) [some rs, some (.tup (L.map sg)), a, b, some (.ref M.length)] (M ++ [.dict true (R0.map fun r => (rl r, .bl true))]) =
        .nx [some rs, some (.tup (L.map sg)), x.1, x.2, some (.ref M.length)] (M ++ [.dict true ((R0 ++ Q).map fun r => (rl r, .bl true))]) := by
    intro Q
    induction Q with
    | nil => intro R0 j all g a b _ _ _; exact ⟨(a, b), by rw [List.append_nil]; exact loop_nil trivial⟩
    | cons r Q ih =>
      intro R0 j all g a b hQ hlen hg
      obtain ⟨x, e⟩ := ih (R0 ++ [r]) (j + 1) all g (some (.int j)) (some (rl r)) (by simpa using hQ) (by simpa using hlen) hg
      refine ⟨x, ?_⟩
      have nr : r ∉ R0 := fun q => (List.nodup_append.mp hQ).2.2 r q r List.mem_cons_self rfl
      rw [List.map_cons, List.zipIdx_cons, List.map_cons, loop_cons (by trivial), hg r R0 j a b nr (by simp at hlen; omega), turn_nx, e]
      simp
  have p1 : T.put (.tp (.cons (.nm 2) (.cons (.nm 3) .nil))) = T.put (.tp (.cons (.nm 2) (.cons (.nm 3) .nil))) := rfl
  simp only [KB.b_rules_fault, execs_cons, exec_for, startE, List.map_cons, List.map_nil, List.length_cons, List.length_nil, List.cons_append, List.nil_append, List.replicate, en, DL.R.toF_ok]
  refine seq_ex (α := Option D × Option D) (ρf := fun x => [some rs, some (.tup (L.map sg)), x.1, x.2, none]) (Mf := fun _ => M) ?_ (fun x => ?_)
  · refine l1 R 0 _ _ none none (fun _ h => h) (fun r hr' i a b => ?_)
    simp [h r L M (hr r hr').1, (hr r hr').2]
  simp only [exec_asg, ev_newd, evs_nil, DL.R.bind_ok, pairUp, List.all_nil, List.length_nil, List.foldl_nil, Nat.zero_le, and_self, if_true, DL.R.toF_ok, put_nm, List.set_cons_succ, List.set_cons_zero, F.seq_nx, en]
  refine seq_ex (α := Option D × Option D) (ρf := fun x => [some rs, some (.tup (L.map sg)), x.1, x.2, some (.ref M.length)]) (Mf := fun _ => M ++ [.dict true (R.map fun r => (rl r, .bl true))]) ?_ (fun x => ?_)
  · refine l2 R [] 0 _ _ x.1 x.2 (by simpa using hn) (by simpa using hl) (fun r R0 i a b hr' hl' => ?_)
    have at1 : (M ++ [MO.dict true (R0.map fun r => (rl r, D.bl true))])[M.length]? = some (.dict true (R0.map fun r => (rl r, D.bl true))) := by simp
    simp [in_dict r at1, put_dict r at1 hr' hl', hr']
  simp
end
end PL
end
section
set_option Elab.async false
set_option linter.all false
set_option maxRecDepth 100000
set_option autoImplicit false
set_option maxHeartbeats 4000000
/-! PL6: lets_table; a law's sameness; drawn pieces, letters, rules, tables. -/
namespace PL
open DL
section
variable {P : Fns} {u : Under}
/-- a table -/
structure TabOk (L : List Nat) (R : List Ru) (m : List Nat) : Prop where
  ne : L ≠ []
  low : ∀ c ∈ L, low c = true
  asc : asc L = true
  nd : R.Nodup
  ru : ∀ r ∈ R, ruleOf L r = true
  len : ∀ r ∈ R, r.1.length ≤ 100 ∧ r.2.length ≤ 100
  many : R.length ≤ 100
  man : m ∈ MAN
theorem rOk_of {r : Ru} (h : r.1.length ≤ 100 ∧ r.2.length ≤ 100) : rOk r := ⟨by unfold line; omega, by unfold line; omega⟩
theorem asc_cons {a b : Nat} {L : List Nat} (h : asc (a :: b :: L) = true) : a < b ∧ asc (b :: L) = true := by
  unfold asc at h ⊢
  simpa using h
theorem asc_pw : ∀ {L : List Nat}, asc L = true → L.Pairwise (· < ·)
  | [], _ => List.Pairwise.nil
  | [a], _ => by simp
  | a :: b :: L, h => by
    obtain ⟨h1, h2⟩ := asc_cons h
    have ih := asc_pw h2
    refine List.pairwise_cons.mpr ⟨fun c hc => ?_, ih⟩
    rcases List.mem_cons.mp hc with e | hc
    · rw [e]; exact h1
    · exact Nat.lt_trans h1 ((List.pairwise_cons.mp ih).1 c hc)
theorem pw_asc : ∀ {L : List Nat}, L.Pairwise (· < ·) → asc L = true
  | [], _ => rfl
  | [a], _ => by simp [asc]
  | a :: b :: L, h => by
    obtain ⟨h1, h2⟩ := List.pairwise_cons.mp h
    have ih := pw_asc h2
    unfold asc at ih ⊢
    simp only [List.tail_cons, List.zip_cons_cons, List.all_cons, Bool.and_eq_true, decide_eq_true_eq] at ih ⊢
    exact ⟨h1 b List.mem_cons_self, ih⟩
theorem pw_len : ∀ {L : List Nat} {a b : Nat}, L.Pairwise (· < ·) → (∀ c ∈ L, a ≤ c ∧ c ≤ b) → L.length ≤ b + 1 - a
  | [], _, _, _, _ => by simp
  | x :: L, a, b, h, hb => by
    obtain ⟨h1, h2⟩ := List.pairwise_cons.mp h
    obtain ⟨q1, q2⟩ := hb x List.mem_cons_self
    have := pw_len (a := x + 1) (b := b) h2 fun c hc => ⟨h1 c hc, (hb c (List.mem_cons_of_mem _ hc)).2⟩
    rw [List.length_cons]
    omega
theorem TabOk.nodup {L : List Nat} {R : List Ru} {m : List Nat} (t : TabOk L R m) : L.Nodup := (asc_pw t.asc).imp fun h => Nat.ne_of_lt h
theorem len26 {L : List Nat} (h : asc L = true) (hl : ∀ c ∈ L, low c = true) : L.length ≤ 26 := pw_len (a := 97) (b := 122) (asc_pw h) fun c hc => (low_iff c).mp (hl c hc)
def TableFault (S : List D → Store → R D) : Prop := ∀ (L : List Nat) (rs : D) (R : List Ru) (m : List Nat) (M : Store), asTup rs = some (R.map rl) → TabOk L R m → S [tabD L rs m] M = .ok .non M
theorem tableFault_run {f1 f2 f3 : Nat} (h1 : IsManner (P.S f1)) (h2 : RulesFault (P.S f2)) (h3 : AreLetters (P.S f3)) : TableFault (runF P u 1 5 (KB.b_table_fault f1 f2 f3)) := fun L rs R m M hR t => by
  refine run1' ?_ rfl
  have l26 := len26 t.asc t.low
  have e1 := h1 m M
  rw [decide_eq_true t.man] at e1
  have e2 := h2 L rs R M hR (by have := t.many; unfold line; omega) (fun r hr => ⟨rOk_of (t.len r hr), t.ru r hr⟩) t.nd
  have e3 := h3 L M (by unfold line; omega) t.low
  rw [decide_eq_true t.ne, t.asc] at e3
  simp [KB.b_table_fault, startE, e1, e2, e3, isT_as hR]
def LetsTable (S : List D → Store → R D) : Prop := ∀ (L : List Nat) (rs : D) (R : List Ru) (m : List Nat) (M : Store), asTup rs = some (R.map rl) → TabOk L R m → S [tabD L rs m] M = .ok (.int R.length) M
theorem letsTable_run {c f : Nat} (h : TableFault (P.S f)) : LetsTable (runF P u 1 4 (KB.b_lets_table c f)) := fun L rs R m M hR t => by
  refine run1' ?_ rfl
  simp [KB.b_lets_table, startE, h L rs R m M hR t, len_as hR]
end
/-! ### sameness -/
mutual
def Wide : D → Bool
  | .tup ds => decide (ds.length ≤ line) && Wides ds
  | .key ds => decide (ds.length ≤ line) && Wides ds
  | .non => true
  | .bl _ => true
  | .int _ => true
  | .str _ => true
  | .lst _ => true
  | .ref _ => true
  | .fn _ => true
  | .ty _ => true
  | .exc _ _ => true
  | .scr _ => true
def Wides : List D → Bool
  | [] => true
  | d :: ds => Wide d && Wides ds
end
theorem wides_iff : ∀ ds : List D, Wides ds = true ↔ ∀ d ∈ ds, Wide d = true
  | [] => by simp [Wides]
  | d :: ds => by simp [Wides, wides_iff ds]
@[simp] theorem wide_str (x : List Nat) : Wide (.str x) = true := rfl
@[simp] theorem wide_int (x : Int) : Wide (.int x) = true := rfl
@[simp] theorem wide_non : Wide .non = true := rfl
@[simp] theorem wide_bl (b : Bool) : Wide (.bl b) = true := rfl
@[simp] theorem wides_nil : Wides [] = true := rfl
@[simp] theorem wides_cons (d : D) (ds : List D) : Wides (d :: ds) = (Wide d && Wides ds) := by rw [Wides]
theorem wide_tup (ds : List D) : Wide (.tup ds) = (decide (ds.length ≤ line) && Wides ds) := by rw [Wide]
theorem wide_key (ds : List D) : Wide (.key ds) = (decide (ds.length ≤ line) && Wides ds) := by rw [Wide]
theorem wide_as {d : D} {ds : List D} (h : asTup d = some ds) : Wide d = (decide (ds.length ≤ line) && Wides ds) := by
  cases d with
  | tup x => cases h; exact wide_tup _
  | key x => cases h; exact wide_key _
  | _ => cases h
theorem depths_mem : ∀ {ds : List D} {d : D}, d ∈ ds → d.depth ≤ D.depths ds
  | x :: ds, d, h => by
    rw [D.depths]
    rcases List.mem_cons.mp h with e | h
    · rw [e]; omega
    · have := depths_mem h
      omega
section
variable {P : Fns} {u : Under}
def SameTo (k : Nat) (S : List D → Store → R D) : Prop := ∀ (d1 d2 : D) (M : Store), Dat d1 = true → Dat d2 = true → d1.toP = d2.toP → d2.depth < k → Wide d2 = true → S [d1, d2] M = .ok (.bl true) M
theorem eq_ll_nil (M : Store) : ev2 .eq (.lst []) (.lst []) M = some (.bl true) := by
  show (eqD M (.lst []) (.lst [])).map D.bl = _
  rw [eqD_of (rd_lst M []) (rd_lst M []) (ok_lst rfl (by simp [D.depths])) (ok_lst rfl (by simp [D.depths])), eqv_ll, eqvs_nil]
  rfl
theorem big_of {i : Int} (h : 0 ≤ i) (h2 : i ≤ 4294967296) : big i = true := by
  unfold big
  rw [decide_eq_true (by omega), decide_eq_true (by omega)]
  rfl
theorem big_len {n : Nat} (h : n ≤ line) : big (n : Int) = true := by
  have h2 : (n : Int) ≤ 4294967296 := by
    have : line = 16777216 := rfl
    omega
  exact big_of (Int.natCast_nonneg n) h2
theorem range_n (n : Nat) : range 0 (n : Int) = (List.range n).map fun i => D.int (i : Nat) := by
  unfold range
  simp
theorem same_run {k f : Nat} (h : SameTo k (P.S f)) : SameTo (k + 1) (runF P u 1 3 (KB.b_law_same f)) := fun d1 d2 M a1 a2 e hd hw => by
  refine run1' ?_ rfl
  have tup : ∀ ds2, asTup d2 = some ds2 → (execs P u (KB.b_law_same f) (startE 3 [d1, d2]) M).toR = .ok (.bl true) M := fun ds2 h2 => by
    obtain ⟨ds1, h1⟩ : ∃ ds1, asTup d1 = some ds1 := by
      rw [toP_as h2] at e
      cases d1 with
      | tup x => exact ⟨x, rfl⟩
      | key x => exact ⟨x, rfl⟩
      | non => rw [D.toP] at e; cases e
      | bl _ => rw [D.toP] at e; cases e
      | int _ => rw [D.toP] at e; cases e
      | str _ => rw [D.toP] at e; cases e
      | _ => cases a1
    rw [toP_as h1, toP_as h2] at e
    have em : ds1.map D.toP = ds2.map D.toP := by injection e
    have hl : ds1.length = ds2.length := by simpa using congrArg List.length em
    rw [dat_as h1] at a1
    rw [dat_as h2] at a2
    rw [depth_as h2] at hd
    rw [wide_as h2, Bool.and_eq_true, decide_eq_true_eq] at hw
    have bg : big (ds2.length : Int) = true := big_len hw.1
    have en : evI P (.rng1 (.o1 .len (.v 1))) [some d1, some d2, none] M = .ok ((List.range ds2.length).map fun i => D.int (i : Nat), none) M := by
      rw [rng1_of (M' := M) (i := (ds2.length : Int)) (by simp [len_as h2]) bg, range_n]
    simp [KB.b_law_same, startE, isT_as h2, isT_as h1, len_as h1, len_as h2, hl, en]
    rw [comp_vals (g := none) (fun i : Nat => D.int (i : Nat)) (fun _ => none) trivial (List.range ds2.length) ?h (by simpa using hw.1)]
    case h =>
      intro i hi
      rw [List.mem_range] at hi
      have hi1 : i < ds1.length := by omega
      have g1 : nth ds1 (i : Int) = some ds1[i] := nth_nat _ _ hi1
      have g2 : nth ds2 (i : Int) = some ds2[i] := nth_nat _ _ hi
      have ei : ds1[i].toP = ds2[i].toP := by
        have := congrArg (fun l => l[i]?) em
        simpa [hi, hi1] using this
      have q := h ds1[i] ds2[i] M ((dats_iff _).mp a1 _ (List.getElem_mem hi1)) ((dats_iff _).mp a2 _ (List.getElem_mem hi)) ei (by have := depths_mem (List.getElem_mem hi); omega) ((wides_iff _).mp hw.2 _ (List.getElem_mem hi))
      simp [ix_as h1, ix_as h2, g1, g2, q]
    have fm : (List.range ds2.length).filterMap (fun _ : Nat => (none : Option D)) = [] := List.filterMap_eq_nil_iff.mpr fun _ _ => rfl
    rw [fm]
    simp [eq_ll_nil]
  cases d2 with
  | tup x => exact tup x rfl
  | key x => exact tup x rfl
  | non =>
    cases d1 with
    | non => simp [KB.b_law_same, startE]
    | bl _ => simp only [D.toP] at e; cases e
    | int _ => simp only [D.toP] at e; cases e
    | str _ => simp only [D.toP] at e; cases e
    | tup _ => simp only [D.toP] at e; cases e
    | key _ => simp only [D.toP] at e; cases e
    | _ => cases a1
  | bl b =>
    cases d1 with
    | bl c =>
      simp only [D.toP, PySem.PyData.bool.injEq] at e
      subst e
      have q : ev2 .eq (.bl c) (.bl c) M = some (.bl true) := by
        show (eqD M (.bl c) (.bl c)).map D.bl = _
        rw [eqD_of (rd_bl M c) (rd_bl M c) (ok_bl _) (ok_bl _)]
        show some (D.bl (PySem.PyData.eqv (.bool c) (.bool c))) = _
        rw [PySem.PyData.eqv]
        simp
      simp [KB.b_law_same, startE, q]
    | non => simp only [D.toP] at e; cases e
    | int _ => simp only [D.toP] at e; cases e
    | str _ => simp only [D.toP] at e; cases e
    | tup _ => simp only [D.toP] at e; cases e
    | key _ => simp only [D.toP] at e; cases e
    | _ => cases a1
  | int b =>
    cases d1 with
    | int c =>
      simp only [D.toP, PySem.PyData.int.injEq] at e
      subst e
      simp [KB.b_law_same, startE]
    | non => simp only [D.toP] at e; cases e
    | bl _ => simp only [D.toP] at e; cases e
    | str _ => simp only [D.toP] at e; cases e
    | tup _ => simp only [D.toP] at e; cases e
    | key _ => simp only [D.toP] at e; cases e
    | _ => cases a1
  | str b =>
    cases d1 with
    | str c =>
      simp only [D.toP, PySem.PyData.str.injEq, PySem.Str.mk.injEq] at e
      have e : c = b := by simpa using e
      subst e
      simp [KB.b_law_same, startE]
    | non => simp only [D.toP] at e; cases e
    | bl _ => simp only [D.toP] at e; cases e
    | int _ => simp only [D.toP] at e; cases e
    | tup _ => simp only [D.toP] at e; cases e
    | key _ => simp only [D.toP] at e; cases e
    | _ => cases a1
  | _ => cases a2
end
end PL
end
section
set_option Elab.async false
set_option linter.all false
set_option maxRecDepth 100000
set_option autoImplicit false
set_option maxHeartbeats 4000000
/-! PL7: what a law draws. -/
namespace PL
open DL
/-- the store M, but for the feed, with more objects behind it -/
def St (n : Nat) (M X M' : Store) : Prop := ∃ cs k r c, 0 ≤ k ∧ 0 ≤ r ∧ M' = M.set n (fdO cs k r c) ++ X
section
variable {n : Nat} {M X M' M2 : Store}
theorem St.feed (h : St n M X M') (hn : n < M.length) : FeedAt n M' := by
  obtain ⟨cs, k, r, c, h1, h2, rfl⟩ := h
  exact ⟨cs, k, r, c, by rw [List.getElem?_append_left (by simpa using hn)]; exact List.getElem?_set_self hn, h1, h2⟩
theorem St.draw (h : St n M X M') (hn : n < M.length) (f : FS n M' M2) : St n M X M2 := by
  obtain ⟨cs, k, r, c, h1, h2, rfl⟩ := h
  obtain ⟨cs', k', r', c', rfl, h3, h4⟩ := f
  exact ⟨cs', k', r', c', h3, h4, by rw [List.set_append_left _ _ (by simpa using hn), List.set_set]⟩
theorem St.at_ (h : St n M X M') (i : Nat) : M'[M.length + i]? = X[i]? := by
  obtain ⟨cs, k, r, c, h1, h2, rfl⟩ := h
  rw [List.getElem?_append_right (by simp)]
  simp
theorem St.at0 (h : St n M X M') : M'[M.length]? = X[0]? := h.at_ 0
theorem St.len (h : St n M X M') : M'.length = M.length + X.length := by
  obtain ⟨cs, k, r, c, h1, h2, rfl⟩ := h
  simp
theorem St.wf (h : St n M X M') (w : Wf M) (hX : ∀ o ∈ X, o.bnd (M.length + X.length) = true) : Wf M' := by
  have hl := h.len
  obtain ⟨cs, k, r, c, h1, h2, rfl⟩ := h
  unfold Wf
  rw [hl, storeBnd_iff]
  intro o ho
  rcases List.mem_append.mp ho with q | q
  · have := w.set (n := n) (fdO_bnd cs k r c M.length)
    unfold Wf at this
    rw [storeBnd_iff] at this
    exact mo_mono (by simp) o (this o q)
  · exact hX o q
theorem St.app (h : St n M X M') (o : MO) : St n M (X ++ [o]) (M' ++ [o]) := by
  obtain ⟨cs, k, r, c, h1, h2, rfl⟩ := h
  exact ⟨cs, k, r, c, h1, h2, by simp⟩
theorem St.put (h : St n M X M') (i : Nat) (o : MO) : St n M (X.set i o) (M'.set (M.length + i) o) := by
  obtain ⟨cs, k, r, c, h1, h2, rfl⟩ := h
  refine ⟨cs, k, r, c, h1, h2, ?_⟩
  rw [List.set_append_right _ _ (by simp)]
  simp
theorem St.put0 (h : St n M X M') (o : MO) : St n M (X.set 0 o) (M'.set M.length o) := h.put 0 o
theorem St.start (h : FeedAt n M) : St n M [] M := by
  obtain ⟨cs, k, r, c, e, h1, h2⟩ := FS.refl h
  exact ⟨cs, k, r, c, h1, h2, by rw [List.append_nil]; exact e⟩
theorem St.fs (h : St n M [] M') : FS n M M' := by
  obtain ⟨cs, k, r, c, h1, h2, e⟩ := h
  exact ⟨cs, k, r, c, by rw [e, List.append_nil], h1, h2⟩
theorem FS.st (hf : FeedAt n M) (h : FS n M M') : St n M [] M' := (St.start hf).draw hf.lt h
end
section
variable {P : Fns} {u : Under}
/-- the def's end: the feed has changed, all else that was made is dropped -/
theorem run_st {n N : Nat} {b : Ss} {ds : List D} {M X : Store} {d : D} {Q : D → Prop} (w : Wf M) (h : ∃ d M', (execs P u b (startE N ds) M).toR = .ok d M' ∧ St n M X M' ∧ d.bnd M.length = true ∧ Q d) :
    ∃ d M', runF P u 2 N b ds M = .ok d M' ∧ Q d ∧ FS n M M' := by
  obtain ⟨d, M', e, ⟨cs, k, r, c, h1, h2, rfl⟩, hb, hq⟩ := h
  exact ⟨d, _, run2 w (fdO_bnd _ _ _ _ _) e hb, hq, cs, k, r, c, rfl, h1, h2⟩
theorem run_stX {n N : Nat} {b : Ss} {ds : List D} {M : Store} {Q : D → Prop} (w : Wf M) (h : ∃ d M' X, (execs P u b (startE N ds) M).toR = .ok d M' ∧ St n M X M' ∧ d.bnd M.length = true ∧ Q d) :
    ∃ d M', runF P u 2 N b ds M = .ok d M' ∧ Q d ∧ FS n M M' := by
  obtain ⟨d, M', X, e, s, hb, hq⟩ := h
  exact run_st (X := X) (d := d) w ⟨d, M', e, s, hb, hq⟩
/-! ### draws, picks -/
def DrawOk (S : List D → Store → R D) : Prop := ∀ (n : Nat) (M : Store) (m : Int), FeedAt n M → Wf M → 0 < m → m < 1073741824 → ∃ (v : Nat) (M' : Store), S [.ref n, .int m] M = .ok (.int v) M' ∧ (v : Int) < m ∧ FS n M M'
theorem drawOk_run : DrawOk (runF P u 2 7 KB.b_law_draw) := fun n M m h w m1 m2 => by
  obtain ⟨v, M', e, h1, h2, f⟩ := draw_run (P := P) (u := u) h w m1 m2
  refine ⟨v.toNat, M', ?_, ?_, f⟩
  · rw [e, Int.toNat_of_nonneg h1]
  · rw [Int.toNat_of_nonneg h1]; exact h2
/-- what is picked of -/
def Sq (n : Nat) (M : Store) (t : D) (ds : List D) : Prop := asTup t = some ds ∨ t = .lst ds ∨ (∃ x : List Nat, t = .str x ∧ ds = letters x ∧ x.length ≤ line) ∨ ∃ p, t = .ref p ∧ p ≠ n ∧ M[p]? = some (.lst ds)
theorem Sq.len {n : Nat} {M : Store} {t : D} {ds : List D} (h : Sq n M t ds) : ev1 .len t M = some (.int ds.length) := by
  rcases h with h | rfl | ⟨x, rfl, rfl, hx⟩ | ⟨p, rfl, hp, e⟩
  · exact len_as h M
  · rfl
  · rw [len_s M hx]; simp [letters]
  · exact len_r e
theorem Sq.ix {n : Nat} {M M' : Store} {t : D} {ds : List D} (h : Sq n M t ds) (f : FS n M M') (i : Nat) (hi : i < ds.length) : ev2 .ix t (.int i) M' = some ds[i] := by
  rcases h with h | rfl | ⟨x, rfl, rfl, hx⟩ | ⟨p, rfl, hp, e⟩
  · rw [ix_as h, nth_nat _ _ hi]
  · rw [ix_lst, nth_nat _ _ hi]
  · show (if x.length ≤ line then (nth x (i : Int)).map (fun c => D.str [c]) else none) = _
    have hi' : i < x.length := by simpa [letters] using hi
    rw [if_pos hx, nth_nat _ _ hi']
    simp [letters]
  · have e' : M'[p]? = some (.lst ds) := by rw [f.other (Ne.symm hp), e]
    unfold ev2
    rw [rk_ref e']
    exact nth_nat _ _ hi
def PickOk (S : List D → Store → R D) : Prop := ∀ (n : Nat) (M : Store) (t : D) (ds : List D), FeedAt n M → Wf M → Sq n M t ds → ds ≠ [] → ds.length ≤ line → D.bnds M.length ds = true → ∃ d M', S [.ref n, t] M = .ok d M' ∧ d ∈ ds ∧ FS n M M'
theorem bnds_mem {n : Nat} : ∀ {ds : List D} {d : D}, D.bnds n ds = true → d ∈ ds → d.bnd n = true
  | x :: ds, d, h, hd => by
    rw [D.bnds, Bool.and_eq_true] at h
    rcases List.mem_cons.mp hd with e | hd
    · rw [e]; exact h.1
    · exact bnds_mem h.2 hd
theorem pickOk_run {f : Nat} (h : DrawOk (P.S f)) : PickOk (runF P u 2 2 (KB.b_law_pick f)) := fun n M t ds hf w hs hne hl hb => by
  have hpos : 0 < ds.length := List.length_pos_iff.mpr hne
  obtain ⟨v, M', e, hv, fs⟩ := h n M ds.length hf w (by omega) (by have : line = 16777216 := rfl; omega)
  have hv' : v < ds.length := by omega
  refine run_stX w ⟨ds[v], M', [], ?_, FS.st hf fs, bnds_mem hb (List.getElem_mem hv'), List.getElem_mem hv'⟩
  simp [KB.b_law_pick, startE, hs.len, e, hs.ix fs v hv']
/-- many letters -/
theorem all_sg {L : List Nat} : ∀ {ds : List D}, (∀ d ∈ ds, ∃ c ∈ L, d = sg c) → ∃ xs : List Nat, ds = xs.map sg ∧ ∀ c ∈ xs, c ∈ L
  | [], _ => ⟨[], rfl, fun c h => by cases h⟩
  | d :: ds, h => by
    obtain ⟨c, hc, rfl⟩ := h d List.mem_cons_self
    obtain ⟨xs, rfl, hx⟩ := all_sg (fun d hd => h d (List.mem_cons_of_mem _ hd))
    exact ⟨c :: xs, rfl, fun a ha => by
      rcases List.mem_cons.mp ha with e | ha
      · rw [e]; exact hc
      · exact hx a ha⟩
theorem comp_picks {n : Nat} {all : List D} {f : D → Store → R (Option D)} {M : Store} {A : D → Prop} (xs : List D) (hf : ∀ x M', St n M [] M' → ∃ d M2, f x M' = .ok (some d) M2 ∧ A d ∧ FS n M' M2) (hs : FeedAt n M) (hl : xs.length ≤ line) :
    ∀ M', St n M [] M' → ∃ ds M2, comp none all f xs [] M' = .ok ds M2 ∧ St n M [] M2 ∧ ds.length = xs.length ∧ ∀ d ∈ ds, A d := fun M' hM' => by
  obtain ⟨ds, M2, e, s2, h1, h2⟩ := comp_inv (g := none) (all := all) (f := f) (I := fun M' => St n M [] M') (Q := fun _ d => A d) (fun _ _ => trivial) xs [] M' hM' (fun x _ M1 h1 => by
    obtain ⟨d, M2, e, q, fs⟩ := hf x M1 h1
    exact ⟨d, M2, e, h1.draw hs.lt fs, q⟩) (by simpa using hl)
  refine ⟨ds, M2, by simpa using e, s2, h1, fun d hd => ?_⟩
  obtain ⟨i, hi, rfl⟩ := List.getElem_of_mem hd
  exact h2 i (xs[i]'(by omega)) _ (by simp) (by simp)
def PieceOk (S : List D → Store → R D) : Prop := ∀ (n : Nat) (M : Store) (L : List Nat) (most : Nat), FeedAt n M → Wf M → L ≠ [] → L.length ≤ line → 0 < most → most ≤ 1000 →
  ∃ x M', S [.ref n, .tup (L.map sg), .int most] M = .ok (.str x) M' ∧ (x ≠ [] ∧ x.length ≤ most ∧ ∀ c ∈ x, c ∈ L) ∧ FS n M M'
theorem pieceOk_run {f1 f2 : Nat} (h1 : DrawOk (P.S f1)) (h2 : PickOk (P.S f2)) : PieceOk (runF P u 2 4 (KB.b_law_piece f1 f2)) := fun n M L most hf w hL hl m0 m1 => by
  suffices q : ∃ d M', runF P u 2 4 (KB.b_law_piece f1 f2) [.ref n, .tup (L.map sg), .int most] M = .ok d M' ∧ (∃ x, d = .str x ∧ x ≠ [] ∧ x.length ≤ most ∧ ∀ c ∈ x, c ∈ L) ∧ FS n M M' by
    obtain ⟨d, M', e, ⟨x, rfl, hx⟩, fs⟩ := q
    exact ⟨x, M', e, hx, fs⟩
  obtain ⟨v, M1, e1, hv, fs1⟩ := h1 n M most hf w (by omega) (by omega)
  have s1 := FS.st hf fs1
  have en : evI P (.rng1 (.o2 .add (.c (.int 1)) (.call f1 (idPm 2) (.cons (.v 0) (.cons (.v 2) .nil)) .nil))) [some (.ref n), some (.tup (L.map sg)), some (.int most), none] M = .ok ((List.range (v + 1)).map fun i => D.int (i : Nat), none) M1 := by
    rw [rng1_of (M' := M1) (i := ((v + 1 : Nat) : Int)) (by simp [e1]; omega) (big_len (by unfold line; omega)), range_n]
  have pick : ∀ M', St n M [] M' → ∃ d M2, P.S f2 [.ref n, .tup (L.map sg)] M' = .ok d M2 ∧ (∃ c ∈ L, d = sg c) ∧ FS n M' M2 := fun M' s => by
    have hw := s.wf w (fun o ho => by cases ho)
    obtain ⟨d, M2, e, hd, fs⟩ := h2 n M' (.tup (L.map sg)) (L.map sg) (s.feed hf.lt) hw (.inl rfl) (by simpa using hL) (by simpa using hl) (bnds_dats (dats_sg L))
    obtain ⟨c, hc, rfl⟩ := List.mem_map.mp hd
    exact ⟨_, M2, e, ⟨c, hc, rfl⟩, fs⟩
  refine run_stX w ?_
  simp only [KB.b_law_piece, startE, List.map_cons, List.map_nil, List.length_cons, List.length_nil, List.cons_append, List.nil_append, List.replicate, execs_cons, exec_ret, ev_o2a, ev_c, ev_lc, R.bind_ok, en]
  obtain ⟨ds, M2, e2, s2, hl2, hds⟩ := comp_picks (n := n) (all := (List.range (v + 1)).map fun i => D.int (i : Nat)) (f := fun x M' => (P.S f2 [.ref n, .tup (L.map sg)] M').bind fun d M => .ok (some d) M) (M := M) (A := fun d => ∃ c ∈ L, d = sg c) ((List.range (v + 1)).map fun i => D.int (i : Nat)) (fun x M' s => by
    obtain ⟨d, M2, e, q, fs⟩ := pick M' s
    exact ⟨d, M2, by rw [e]; rfl, q, fs⟩) hf (by simp; unfold line; omega) M1 s1
  obtain ⟨xs, rfl, hx⟩ := all_sg hds
  have hlen : xs.length = v + 1 := by simpa using hl2
  refine ⟨.str xs, M2, [], ?_, s2, rfl, xs, rfl, ?_, by omega, hx⟩
  · simp
    rw [e2]
    simp [join_sg M2 (by unfold line; omega : xs.length ≤ line)]
  · intro q; rw [q] at hlen; simp at hlen
end
end PL
end
section
set_option Elab.async false
set_option linter.all false
set_option maxRecDepth 100000
set_option autoImplicit false
set_option maxHeartbeats 4000000
/-! PL8: drawn letters, rules, tables. -/
namespace PL
open DL
def sAt : Ss → Nat → S
  | .cons s _, 0 => s
  | .cons _ r, n + 1 => sAt r n
  | .nil, _ => .pass
def forB : S → Ss
  | .for_ _ _ b => b
  | _ => .nil
structure LetOk (L : List Nat) : Prop where
  ne : L ≠ []
  low : ∀ c ∈ L, low c = true
  asc : asc L = true
theorem LetOk.l26 {L : List Nat} (h : LetOk L) : L.length ≤ 26 := len26 h.asc h.low
theorem setC_eq : ∀ N : List Nat, setSort ltN (N.map fun c => [c]) = (setSort (fun a b => decide (a < b)) N).map fun c => [c]
  | [] => rfl
  | c :: N => by
    show insN ltN [c] (setSort ltN (N.map fun c => [c])) = _
    rw [setC_eq N]
    show insN ltN [c] _ = (insN (fun a b => decide (a < b)) c (setSort (fun a b => decide (a < b)) N)).map fun c => [c]
    generalize setSort (fun a b => decide (a < b)) N = Z
    induction Z with
    | nil => rfl
    | cons z Z ih =>
      simp only [List.map_cons, insN, ltN_sg]
      by_cases e : c = z
      · subst e; simp
      · by_cases h : c < z
        · simp [e, h]
        · simp [e, h, ih]
abbrev setC (N : List Nat) : List Nat := setSort (fun a b => decide (a < b)) N
theorem setC_mem (a : Nat) (N : List Nat) : a ∈ setC N ↔ a ∈ N := by
  have := setSort_mem [a] (N.map fun c => [c])
  rw [setC_eq] at this
  simpa using this
theorem setC_asc (N : List Nat) : asc (setC N) = true := by
  refine pw_asc ?_
  have := setSort_pw (N.map fun c => [c])
  rw [setC_eq, List.pairwise_map] at this
  exact this.imp fun {a b} h => by simpa using h
theorem setC_len (N : List Nat) (h : ∀ c ∈ N, low c = true) : (setC N).length ≤ 26 := len26 (setC_asc N) fun c hc => h c ((setC_mem c N).mp hc)
theorem setC_ok {N : List Nat} (hn : N ≠ []) (h : ∀ c ∈ N, low c = true) : LetOk (setC N) := by
  refine ⟨?_, fun c hc => h c ((setC_mem c N).mp hc), setC_asc N⟩
  intro e
  obtain ⟨a, ha⟩ := List.exists_mem_of_ne_nil N hn
  have := (setC_mem a N).mpr ha
  rw [e] at this
  cases this
theorem sortedSet_sg {xs : List Nat} (M : Store) (h : xs.length < 60) : ev1 .sortedSet (.lst (xs.map sg)) M = some (.lst ((setC xs).map sg)) := by
  show (match strsOf (xs.map sg) with | some xs => if xs.length < 60 && xs.all (fun x => x.length == 1) then some (D.lst ((setSort ltN xs).map .str)) else none | none => none) = _
  rw [show (xs.map sg) = xs.map (fun c => D.str [c]) from rfl, strsOf_map (fun c => [c]) xs]
  simp only
  rw [if_pos (by simp [h]), setC_eq]
  simp
section
variable {P : Fns} {u : Under}
def LettersOk (S : List D → Store → R D) : Prop := ∀ (n : Nat) (M : Store), FeedAt n M → Wf M → ∃ L M', S [.ref n] M = .ok (.tup (L.map sg)) M' ∧ LetOk L ∧ FS n M M'
abbrev menuL : List (List Nat) := [[97, 98, 99], [97, 98], [97], [112, 113], [97, 109, 122], [119, 120, 121, 122], LET]
theorem lettersOk_run {f1 f2 : Nat} (h1 : DrawOk (P.S f1)) (h2 : PickOk (P.S f2)) : LettersOk (runF P u 2 3 (KB.b_law_letters f1 f2)) := fun n M hf w => by
  suffices q : ∃ d M', runF P u 2 3 (KB.b_law_letters f1 f2) [.ref n] M = .ok d M' ∧ (∃ L, d = .tup (L.map sg) ∧ LetOk L) ∧ FS n M M' by
    obtain ⟨d, M', e, ⟨L, rfl, hL⟩, fs⟩ := q
    exact ⟨L, M', e, hL, fs⟩
  obtain ⟨v, M1, e1, hv, fs1⟩ := h1 n M 3 hf w (by decide) (by decide)
  have s1 := FS.st hf fs1
  have w1 := s1.wf w (fun o ho => by cases ho)
  have f1' := s1.feed hf.lt
  refine run_stX w ?_
  by_cases c : v = 0
  · subst c
    obtain ⟨d, M2, e2, hd, fs2⟩ := h2 n M1 (.lst (menuL.map .str)) (menuL.map .str) f1' w1 (.inr (.inl rfl)) (by simp) (by simp [line]) (by simp)
    obtain ⟨x, hx, rfl⟩ := List.mem_map.mp hd
    have hx2 : LetOk x ∧ x.length ≤ line := by
      have : ∀ x ∈ menuL, (x ≠ [] ∧ x.all low = true ∧ asc x = true) ∧ x.length ≤ 26 := by decide
      obtain ⟨⟨q1, q2, q3⟩, q4⟩ := this x hx
      exact ⟨⟨q1, by simpa using q2, q3⟩, by unfold line; omega⟩
    have e3 : ∀ M, ev1 .tuple (.str x) M = some (.tup (x.map sg)) := fun M => by
      show (if x.length ≤ line then _ else _) = _
      rw [if_pos hx2.2]
      rfl
    refine ⟨.tup (x.map sg), M2, [], ?_, s1.draw hf.lt fs2, bnd_dat (by simp [dats_sg]), x, rfl, hx2.1⟩
    have e2 : P.S f2 [.ref n, .lst [.str [97, 98, 99], .str [97, 98], .str [97], .str [112, 113], .str [97, 109, 122], .str [119, 120, 121, 122], .str LET]] M1 = .ok (.str x) M2 := e2
    simp [KB.b_law_letters, startE, e1, e2, e3, line]
  · obtain ⟨v2, M2, e2, hv2, fs2⟩ := h1 n M1 4 f1' w1 (by decide) (by decide)
    have s2 := s1.draw hf.lt fs2
    have en : evI P (.rng1 (.o2 .add (.c (.int 1)) (.call f1 (idPm 2) (.cons (.v 0) (.cons (.c (.int 4)) .nil)) .nil))) [some (.ref n), some (.str LET), none] M1 = .ok ((List.range (v2 + 1)).map fun i => D.int (i : Nat), none) M2 := by
      rw [rng1_of (M' := M2) (i := ((v2 + 1 : Nat) : Int)) (by simp [e2]; omega) (big_len (by unfold line; omega)), range_n]
    have pick : ∀ M', St n M [] M' → ∃ d M2, P.S f2 [.ref n, .str LET] M' = .ok d M2 ∧ (∃ c ∈ LET, d = sg c) ∧ FS n M' M2 := fun M' s => by
      have hw := s.wf w (fun o ho => by cases ho)
      obtain ⟨d, M2, e, hd, fs⟩ := h2 n M' (.str LET) (letters LET) (s.feed hf.lt) hw (.inr (.inr (.inl ⟨LET, rfl, rfl, by simp [line]⟩))) (by simp [letters]) (by simp [letters, line]) (bnds_dats (dats_sg LET))
      obtain ⟨c, hc, rfl⟩ := List.mem_map.mp hd
      exact ⟨_, M2, e, ⟨c, hc, rfl⟩, fs⟩
    obtain ⟨ds, M3, e3, s3, hl3, hds⟩ := comp_picks (n := n) (all := (List.range (v2 + 1)).map fun i => D.int (i : Nat)) (f := fun x M' => (P.S f2 [.ref n, .str LET] M').bind fun d M => .ok (some d) M) (M := M) (A := fun d => ∃ c ∈ LET, d = sg c) ((List.range (v2 + 1)).map fun i => D.int (i : Nat)) (fun x M' s => by
      obtain ⟨d, M2, e, q, fs⟩ := pick M' s
      exact ⟨d, M2, by rw [e]; rfl, q, fs⟩) hf (by simp; unfold line; omega) M2 s2
    obtain ⟨xs, rfl, hx⟩ := all_sg hds
    have hlen : xs.length = v2 + 1 := by simpa using hl3
    have hxl : ∀ c ∈ xs, low c = true := fun c hc => by unfold low; exact decide_eq_true (hx c hc)
    have cc : ¬ (v : Int) = 0 := by omega
    refine ⟨.tup ((setC xs).map sg), M3, [], ?_, s3, bnd_dat (by simp [dats_sg]), setC xs, rfl, setC_ok (by intro q; rw [q] at hlen; simp at hlen) hxl⟩
    simp [KB.b_law_letters, startE, e1, c, en]
    rw [e3]
    simp [sortedSet_sg M3 (by omega : xs.length < 60)]
/-! ### rules -/
structure RuOk (L : List Nat) (most : Nat) (r : Ru) : Prop where
  a0 : r.1 ≠ []
  b0 : r.2 ≠ []
  a : ∀ c ∈ r.1, c ∈ L
  b : ∀ c ∈ r.2, c ∈ L
  len : r.1.length + r.2.length ≤ most
theorem RuOk.of {L : List Nat} {most : Nat} {r : Ru} (h : RuOk L most r) (hL : ∀ c ∈ L, low c = true) : ruleOf L r = true := by
  have e1 : r.1.all low = true := by rw [List.all_eq_true]; exact fun c hc => hL c (h.a c hc)
  have e2 : r.2.all low = true := by rw [List.all_eq_true]; exact fun c hc => hL c (h.b c hc)
  have e3 : r.1.all (decide <| · ∈ L) = true := by rw [List.all_eq_true]; exact fun c hc => decide_eq_true (h.a c hc)
  have e4 : r.2.all (decide <| · ∈ L) = true := by rw [List.all_eq_true]; exact fun c hc => decide_eq_true (h.b c hc)
  unfold ruleOf pc
  rw [e1, e2, e3, e4, decide_eq_true h.a0, decide_eq_true h.b0]
  rfl
structure Pool (L : List Nat) (most k : Nat) (pool : List (List Nat)) : Prop where
  ne : pool ≠ []
  ok : ∀ x ∈ pool, x ≠ [] ∧ (∀ c ∈ x, c ∈ L) ∧ x.length ≤ most + 1
  len : pool.length ≤ 26 + k
structure Made (L : List Nat) (most k : Nat) (made : List Ru) : Prop where
  nd : made.Nodup
  ok : ∀ r ∈ made, RuOk L most r
  len : made.length ≤ k
abbrev rulesX (pool : List (List Nat)) (made : List Ru) : Store := [.lst (pool.map .str), .lst (made.map rl)]
theorem rulesX_bnd {pool : List (List Nat)} {made : List Ru} {k : Nat} : ∀ o ∈ rulesX pool made, o.bnd k = true := by
  intro o ho
  rcases List.mem_cons.mp ho with e | ho
  · rw [e]; exact bnds_dats ((dats_iff _).mpr fun d hd => by obtain ⟨x, _, rfl⟩ := List.mem_map.mp hd; rfl)
  · rw [List.mem_singleton.mp ho]; exact bnds_dats (dats_rl made)
theorem dats_str (pool : List (List Nat)) : Dats (pool.map .str) = true := (dats_iff _).mpr fun d hd => by obtain ⟨x, _, rfl⟩ := List.mem_map.mp hd; rfl
theorem isin_ref {M : Store} {p : Nat} {ds : List D} {a : D} (h : M[p]? = some (.lst ds)) (ho : (D.lst ds).okEq = true) (ha : rd M a = a) (h2 : a.okEq = true) : ev2 .isin a (.ref p) M = some (.bl (ds.any fun z => z.eqv a)) := by
  show (ev2.isinD M a (.ref p)).map D.bl = _
  unfold ev2.isinD
  rw [rk_ref h]
  simp only [ha]
  rw [if_pos (by rw [ho, h2]; rfl)]
  rfl
theorem in_list {M : Store} {p : Nat} {R : List Ru} (r : Ru) (h : M[p]? = some (.lst (R.map rl))) : ev2 .isin (rl r) (.ref p) M = some (.bl (decide (r ∈ R))) := by
  rw [isin_ref h (ok_lst (dats_plain _ (dats_rl R)) (by have := depths_rl R; omega)) rfl (ok_rl _), any_eqv rl r (fun b => by rw [rl_eqv, decide_eq_true_eq])]
theorem isL_of {M : Store} {p : Nat} {ds : List D} (h : M[p]? = some (.lst ds)) : isL (.ref p) M = true := by
  unfold isL
  simp only [h]
theorem app_of {M : Store} {p : Nat} {ds : List D} (d : D) (h : M[p]? = some (.lst ds)) (hl : ds.length < line) : appD (.ref p) d M = some (M.set p (.lst (ds ++ [d]))) := by
  unfold appD
  simp only [h]
  rw [if_pos hl]
/-- the turn's last test: the pair is taken up -/
theorem rules_s3 {f1 f2 f3 n : Nat} {M M' : Store} {L : List Nat} {many most k : Nat} {pool : List (List Nat)} {made : List Ru} {T W : D} {a : Option D} {r : Ru} (hm : most ≤ 1000) (hn : n < M.length) (s : St n M (rulesX pool made) M') (hk : k ≤ 1000)
    (hp : Pool L most k pool) (hd : Made L most k made) (hr : r.1 ≠ [] ∧ r.2 ≠ [] ∧ (∀ c ∈ r.1, c ∈ L) ∧ (∀ c ∈ r.2, c ∈ L) ∧ r.1.length ≤ 2000 ∧ r.2.length ≤ 2000) :
    ∃ pool' made' M2, exec P u (sAt (forB (sAt (KB.b_law_rules f1 f2 f3) 1)) 2) [some (.ref n), some T, some (.int many), some (.int most), some (.ref M.length), some (.ref (M.length + 1)), some W, a, none, some (rl r)] M' =
      .nx [some (.ref n), some T, some (.int many), some (.int most), some (.ref M.length), some (.ref (M.length + 1)), some W, a, none, some (rl r)] M2 ∧ St n M (rulesX pool' made') M2 ∧ Pool L most (k + 1) pool' ∧ Made L most (k + 1) made' := by
  have a0 : M'[M.length]? = some (.lst (pool.map .str)) := s.at0
  have a1 : M'[M.length + 1]? = some (.lst (made.map rl)) := s.at_ 1
  obtain ⟨q1, q2, q3, q4, q5, q6⟩ := hr
  have l1 : ev1 .len (.str r.1) M' = some (.int r.1.length) := len_s M' (by unfold line; omega)
  have l2 : ev1 .len (.str r.2) M' = some (.int r.2.length) := len_s M' (by unfold line; omega)
  have ni : ev2 .notin (rl r) (.ref (M.length + 1)) M' = some (.bl (!decide (r ∈ made))) := notin_of (in_list r a1)
  have keep : Pool L most (k + 1) pool ∧ Made L most (k + 1) made := ⟨⟨hp.ne, hp.ok, by have := hp.len; omega⟩, ⟨hd.nd, hd.ok, by have := hd.len; omega⟩⟩
  by_cases c1 : r.1.length + r.2.length ≤ most
  · by_cases c2 : r ∈ made
    · refine ⟨pool, made, M', ?_, s, keep⟩
      simp [sAt, forB, KB.b_law_rules, l1, l2, ni, c2]
    · have s1 := s.put 1 (.lst (made.map rl ++ [rl r]))
      have s2 := s1.put0 (.lst (pool.map .str ++ [.str (r.1 ++ r.2)]))
      have b0 : (M'.set (M.length + 1) (.lst (made.map rl ++ [rl r])))[M.length]? = some (.lst (pool.map .str)) := s1.at0
      have s2' : St n M (rulesX (pool ++ [r.1 ++ r.2]) (made ++ [r])) ((M'.set (M.length + 1) (.lst (made.map rl ++ [rl r]))).set M.length (.lst (pool.map .str ++ [.str (r.1 ++ r.2)]))) := by simpa [rulesX] using s2
      refine ⟨pool ++ [r.1 ++ r.2], made ++ [r], _, ?_, s2', ⟨by simp, ?_, by have := hp.len; simp; omega⟩, ⟨?_, ?_, by have := hd.len; simp; omega⟩⟩
      · have ad : ∀ M, ev2 .add (.str r.1) (.str r.2) M = some (.str (r.1 ++ r.2)) := fun M => add_ss M (by unfold line; omega)
        have le : (r.1.length : Int) + (r.2.length : Int) ≤ (most : Int) := by omega
        simp [sAt, forB, KB.b_law_rules, l1, l2, ni, c2, le, isL_of a1, app_of (rl r) a1 (by simp; have := hd.len; unfold line; omega), isL_of b0, ad, app_of (.str (r.1 ++ r.2)) b0 (by simp; have := hp.len; unfold line; omega)]
      · intro x hx
        rcases List.mem_append.mp hx with h | h
        · exact hp.ok x h
        · rw [List.mem_singleton.mp h]
          refine ⟨by simp [q1], fun c hc => ?_, by simp; omega⟩
          rcases List.mem_append.mp hc with h | h
          · exact q3 c h
          · exact q4 c h
      · rw [List.nodup_append]
        refine ⟨hd.nd, by simp, fun x hx y hy => ?_⟩
        rw [List.mem_singleton.mp hy]
        exact fun e => c2 (e ▸ hx)
      · intro x hx
        rcases List.mem_append.mp hx with h | h
        · exact hd.ok x h
        · rw [List.mem_singleton.mp h]
          exact ⟨q1, q2, q3, q4, c1⟩
  · refine ⟨pool, made, M', ?_, s, keep⟩
    have le : ¬ (r.1.length : Int) + (r.2.length : Int) ≤ (most : Int) := by omega
    simp [sAt, forB, KB.b_law_rules, l1, l2, le]
/-- two pieces drawn -/
def Two (L : List Nat) (most : Nat) (a b : List Nat) : Prop := a ≠ [] ∧ b ≠ [] ∧ (∀ c ∈ a, c ∈ L) ∧ (∀ c ∈ b, c ∈ L) ∧ a.length ≤ 2000 ∧ b.length ≤ 2000
theorem rules_turn {f1 f2 f3 n : Nat} {M M' : Store} {L : List Nat} {many most k : Nat} {pool : List (List Nat)} {made : List Ru} {way : Nat} {a b : Option D} (h1 : DrawOk (P.S f1)) (h2 : PieceOk (P.S f2)) (h3 : PickOk (P.S f3)) (hL : LetOk L)
    (hm : most ≤ 1000) (hf : FeedAt n M) (w : Wf M) (s : St n M (rulesX pool made) M') (hk : k ≤ 1000) (hp : Pool L most k pool) (hd : Made L most k made) :
    ∃ b' pool' made' M2, execs P u (forB (sAt (KB.b_law_rules f1 f2 f3) 1)) [some (.ref n), some (.tup (L.map sg)), some (.int many), some (.int most), some (.ref M.length), some (.ref (M.length + 1)), some (.int way), a, none, b] M' =
      .nx [some (.ref n), some (.tup (L.map sg)), some (.int many), some (.int most), some (.ref M.length), some (.ref (M.length + 1)), some (.int way), a, none, b'] M2 ∧ St n M (rulesX pool' made') M2 ∧ Pool L most (k + 1) pool' ∧ Made L most (k + 1) made' := by
  have hn := hf.lt
  have hb : forB (sAt (KB.b_law_rules f1 f2 f3) 1) = .cons (sAt (forB (sAt (KB.b_law_rules f1 f2 f3) 1)) 0) (.cons (sAt (forB (sAt (KB.b_law_rules f1 f2 f3) 1)) 1) (.cons (sAt (forB (sAt (KB.b_law_rules f1 f2 f3) 1)) 2) .nil)) := rfl
  have pick : ∀ M', St n M (rulesX pool made) M' → ∃ x M2, P.S f3 [.ref n, .ref M.length] M' = .ok (.str x) M2 ∧ (x ≠ [] ∧ (∀ c ∈ x, c ∈ L) ∧ x.length ≤ most + 1) ∧ St n M (rulesX pool made) M2 := fun M' s => by
    obtain ⟨d, M2, e, hd', fs⟩ := h3 n M' (.ref M.length) (pool.map .str) (s.feed hn) (s.wf w rulesX_bnd) (.inr (.inr (.inr ⟨_, rfl, by omega, s.at0⟩))) (by simpa using hp.ne) (by simp; have := hp.len; unfold line; omega) (bnds_dats (dats_str pool))
    obtain ⟨x, hx, rfl⟩ := List.mem_map.mp hd'
    exact ⟨x, M2, e, hp.ok x hx, s.draw hn fs⟩
  have piece : ∀ M', St n M (rulesX pool made) M' → ∃ x M2, P.S f2 [.ref n, .tup (L.map sg), .int 3] M' = .ok (.str x) M2 ∧ (x ≠ [] ∧ x.length ≤ 3 ∧ ∀ c ∈ x, c ∈ L) ∧ St n M (rulesX pool made) M2 := fun M' s => by
    obtain ⟨x, M2, e, hx, fs⟩ := h2 n M' L 3 (s.feed hn) (s.wf w rulesX_bnd) hL.ne (by have := hL.l26; unfold line; omega) (by omega) (by omega)
    exact ⟨x, M2, e, hx, s.draw hn fs⟩
  obtain ⟨x1, M1, e1, g1, s1⟩ := pick M' s
  obtain ⟨x2, M2, e2, g2, s2⟩ := pick M1 s1
  have st1 : exec P u (sAt (forB (sAt (KB.b_law_rules f1 f2 f3) 1)) 0) [some (.ref n), some (.tup (L.map sg)), some (.int many), some (.int most), some (.ref M.length), some (.ref (M.length + 1)), some (.int way), a, none, b] M' =
      .nx [some (.ref n), some (.tup (L.map sg)), some (.int many), some (.int most), some (.ref M.length), some (.ref (M.length + 1)), some (.int way), a, none, some (rl (x1, x2))] M2 := by
    simp [sAt, forB, KB.b_law_rules, e1, e2, line]
  have st2 : ∃ y1 y2 M3, exec P u (sAt (forB (sAt (KB.b_law_rules f1 f2 f3) 1)) 1) [some (.ref n), some (.tup (L.map sg)), some (.int many), some (.int most), some (.ref M.length), some (.ref (M.length + 1)), some (.int way), a, none, some (rl (x1, x2))] M2 =
      .nx [some (.ref n), some (.tup (L.map sg)), some (.int many), some (.int most), some (.ref M.length), some (.ref (M.length + 1)), some (.int way), a, none, some (rl (y1, y2))] M3 ∧ St n M (rulesX pool made) M3 ∧ y1 ≠ [] ∧ y2 ≠ [] ∧ (∀ c ∈ y1, c ∈ L) ∧ (∀ c ∈ y2, c ∈ L) ∧ y1.length ≤ 2000 ∧ y2.length ≤ 2000 := by
    have pieces : ∀ M', St n M (rulesX pool made) M' → ∃ z1 z2 M3 M4, P.S f2 [.ref n, .tup (L.map sg), .int 3] M' = .ok (.str z1) M3 ∧ P.S f2 [.ref n, .tup (L.map sg), .int 3] M3 = .ok (.str z2) M4 ∧ St n M (rulesX pool made) M4 ∧ z1 ≠ [] ∧ z2 ≠ [] ∧ (∀ c ∈ z1, c ∈ L) ∧ (∀ c ∈ z2, c ∈ L) ∧ z1.length ≤ 2000 ∧ z2.length ≤ 2000 := fun M' s => by
      obtain ⟨z1, M3, e3, g3, s3⟩ := piece M' s
      obtain ⟨z2, M4, e4, g4, s4⟩ := piece M3 s3
      exact ⟨z1, z2, M3, M4, e3, e4, s4, g3.1, g4.1, g3.2.2, g4.2.2, by have := g3.2.1; omega, by have := g4.2.1; omega⟩
    by_cases c3 : way = 3
    · subst c3
      obtain ⟨z1, z2, M3, M4, e3, e4, s4, q⟩ := pieces M2 s2
      refine ⟨z1, z2, M4, ?_, s4, q⟩
      simp [sAt, forB, KB.b_law_rules, e3, e4, line]
    · have c3' : ¬ (way : Int) = 3 := by omega
      by_cases c2 : way = 2
      · subst c2
        obtain ⟨v, M5, e5, hv, fs5⟩ := h1 n M2 3 (s2.feed hn) (s2.wf w rulesX_bnd) (by decide) (by decide)
        have s5 := s2.draw hn fs5
        by_cases c0 : v = 0
        · subst c0
          obtain ⟨z1, z2, M3, M4, e3, e4, s4, q⟩ := pieces M5 s5
          refine ⟨z1, z2, M4, ?_, s4, q⟩
          simp [sAt, forB, KB.b_law_rules, e5, e3, e4, line]
        · have c0' : ¬ (v : Int) = 0 := by omega
          refine ⟨x1, x2, M5, ?_, s5, g1.1, g2.1, g1.2.1, g2.2.1, by have := g1.2.2; omega, by have := g2.2.2; omega⟩
          simp [sAt, forB, KB.b_law_rules, e5, c0]
      · have c2' : ¬ (way : Int) = 2 := by omega
        refine ⟨x1, x2, M2, ?_, s2, g1.1, g2.1, g1.2.1, g2.2.1, by have := g1.2.2; omega, by have := g2.2.2; omega⟩
        simp [sAt, forB, KB.b_law_rules, c3', c2']
  obtain ⟨y1, y2, M3, st2, s3, hy⟩ := st2
  obtain ⟨pool', made', M4, st3, s4, p4, m4⟩ := rules_s3 (P := P) (u := u) (f1 := f1) (f2 := f2) (f3 := f3) (L := L) (many := many) (T := .tup (L.map sg)) (W := .int way) (a := a) (r := (y1, y2)) hm hn s3 hk hp hd hy
  refine ⟨some (rl (y1, y2)), pool', made', M4, ?_, s4, p4, m4⟩
  rw [hb, execs_cons, st1, F.seq_nx, execs_cons, st2, F.seq_nx, execs_cons, st3, F.seq_nx, execs_nil]
def RulesOk (S : List D → Store → R D) : Prop := ∀ (n : Nat) (M : Store) (L : List Nat) (many most : Nat), FeedAt n M → Wf M → LetOk L → many ≤ 1000 → most ≤ 1000 → 1 ≤ most →
  ∃ R M', S [.ref n, .tup (L.map sg), .int many, .int most] M = .ok (.tup (R.map rl)) M' ∧ Made L most many R ∧ FS n M M'
theorem rulesOk_run {f1 f2 f3 : Nat} (h1 : DrawOk (P.S f1)) (h2 : PieceOk (P.S f2)) (h3 : PickOk (P.S f3)) : RulesOk (runF P u 2 10 (KB.b_law_rules f1 f2 f3)) := fun n M L many most hf w hL hmany hm hm1 => by
  suffices q : ∃ d M', runF P u 2 10 (KB.b_law_rules f1 f2 f3) [.ref n, .tup (L.map sg), .int many, .int most] M = .ok d M' ∧ (∃ R, d = .tup (R.map rl) ∧ Made L most many R) ∧ FS n M M' by
    obtain ⟨d, M', e, ⟨R, rfl, hR⟩, fs⟩ := q
    exact ⟨R, M', e, hR, fs⟩
  have hn := hf.lt
  have l26 := hL.l26
  have hb : KB.b_law_rules f1 f2 f3 = .cons (sAt (KB.b_law_rules f1 f2 f3) 0) (.cons (.for_ (.nm 7) (.rng1 (.v 2)) (forB (sAt (KB.b_law_rules f1 f2 f3) 1))) (.cons (sAt (KB.b_law_rules f1 f2 f3) 2) (.cons (sAt (KB.b_law_rules f1 f2 f3) 3) .nil))) := rfl
  have pm : (L.map sg) = ((L.map fun c => [c]).map .str) := by simp
  have s0 : St n M (rulesX (L.map fun c => [c]) []) (M ++ [.lst (L.map sg)] ++ [.lst []]) := by
    have := ((St.start hf).app (.lst (L.map sg))).app (.lst [])
    rw [show ([] ++ [MO.lst (L.map sg)] ++ [MO.lst []] : Store) = rulesX (L.map fun c => [c]) [] by simp [rulesX]] at this
    exact this
  obtain ⟨way, M1, e1, hway, fs1⟩ := h1 n _ 4 (s0.feed hn) (s0.wf w rulesX_bnd) (by decide) (by decide)
  have s1 := s0.draw hn fs1
  have p1 : Pool L most 0 (L.map fun c => [c]) := ⟨by simpa using hL.ne, fun x hx => by
    obtain ⟨c, hc, rfl⟩ := List.mem_map.mp hx
    exact ⟨by simp, fun a ha => by rw [List.mem_singleton.mp ha]; exact hc, by simp⟩, by simpa using l26⟩
  have m1 : Made L most 0 ([] : List Ru) := ⟨List.nodup_nil, (fun r h => by cases h), by simp⟩
  have st0 : exec P u (sAt (KB.b_law_rules f1 f2 f3) 0) (startE 10 [.ref n, .tup (L.map sg), .int many, .int most]) M = .nx [some (.ref n), some (.tup (L.map sg)), some (.int many), some (.int most), some (.ref M.length), some (.ref (M.length + 1)), some (.int way), none, none, none] M1 := by
    simp [sAt, KB.b_law_rules, startE] at e1 ⊢
    simp [e1]
  obtain ⟨ρ2, M2, lp, J2⟩ := loop_all (g := none) (xs := range 0 (many : Int)) (f := forF P u (.nm 7) (forB (sAt (KB.b_law_rules f1 f2 f3) 1))) (M := M1)
    (ρ := [some (.ref n), some (.tup (L.map sg)), some (.int many), some (.int most), some (.ref M.length), some (.ref (M.length + 1)), some (.int way), none, none, none])
    (fun pre ρ M' => ∃ a b pool made, ρ = [some (.ref n), some (.tup (L.map sg)), some (.int many), some (.int most), some (.ref M.length), some (.ref (M.length + 1)), some (.int way), a, none, b] ∧ St n M (rulesX pool made) M' ∧ Pool L most pre.length pool ∧ Made L most pre.length made)
    (fun _ _ _ _ => trivial) ⟨none, none, _, [], rfl, s1, p1, m1⟩ (fun pre x suf ρ M' e0 hJ => by
      obtain ⟨a, b, pool, made, rfl, s, p, m⟩ := hJ
      have hlen : pre.length ≤ 1000 := by
        have := congrArg List.length e0
        simp [range_n] at this
        omega
      obtain ⟨b', pool', made', M3, e3, s3, p3, m3⟩ := rules_turn (P := P) (u := u) (many := many) (way := way) (a := some x) (b := b) h1 h2 h3 hL hm hf w s hlen p m
      refine ⟨_, M3, .inl ?_, some x, b', pool', made', rfl, s3, by simpa using p3, by simpa using m3⟩
      simpa using e3)
  obtain ⟨a, b, pool, made, rfl, s2, p2, m2⟩ := J2
  have hlr : (range 0 (many : Int)).length = many := by simp [range_n]
  rw [hlr] at p2 m2
  have a1 : M2[M.length + 1]? = some (.lst (made.map rl)) := s2.at_ 1
  obtain ⟨turn, M3, e3, hturn, fs3⟩ := h1 n M2 3 (s2.feed hn) (s2.wf w rulesX_bnd) (by decide) (by decide)
  have s3 := s2.draw hn fs3
  have a3 : M3[M.length + 1]? = some (.lst (made.map rl)) := s3.at_ 1
  have perm : ∀ R : List Ru, R.Perm made → Made L most many R := fun R hp => ⟨hp.nodup_iff.mpr m2.nd, fun r hr => m2.ok r (hp.mem_iff.mp hr), by rw [hp.length_eq]; exact m2.len⟩
  refine run_stX w ?_
  have en : evI P (.rng1 (.v 2)) [some (.ref n), some (.tup (L.map sg)), some (.int many), some (.int most), some (.ref M.length), some (.ref (M.length + 1)), some (.int way), none, none, none] M1 = .ok (range 0 (many : Int), none) M1 := rng1_of (by simp) (big_len (by unfold line; omega))
  have st2 : exec P u (sAt (KB.b_law_rules f1 f2 f3) 2) [some (.ref n), some (.tup (L.map sg)), some (.int many), some (.int most), some (.ref M.length), some (.ref (M.length + 1)), some (.int way), a, none, b] M2 = .nx [some (.ref n), some (.tup (L.map sg)), some (.int many), some (.int most), some (.ref M.length), some (.ref (M.length + 1)), some (.int way), a, some (.int turn), b] M3 := by
    simp [sAt, KB.b_law_rules, e3]
  have fin : ∀ R : List Ru, R.Perm made → exec P u (sAt (KB.b_law_rules f1 f2 f3) 3) [some (.ref n), some (.tup (L.map sg)), some (.int many), some (.int most), some (.ref M.length), some (.ref (M.length + 1)), some (.int way), a, some (.int turn), b] M3 = .rt (.tup (R.map rl)) M3 →
      ∃ d M' X, (execs P u (KB.b_law_rules f1 f2 f3) (startE 10 [.ref n, .tup (L.map sg), .int many, .int most]) M).toR = .ok d M' ∧ St n M X M' ∧ d.bnd M.length = true ∧ ∃ R, d = .tup (R.map rl) ∧ Made L most many R := fun R hp e => by
    refine ⟨.tup (R.map rl), M3, _, ?_, s3, bnd_dat (by simp [dats_rl]), R, rfl, perm R hp⟩
    rw [hb, execs_cons, st0, F.seq_nx, execs_cons, exec_for, en, DL.R.toF_ok]
    simp only
    rw [lp, F.seq_nx, execs_cons, st2, F.seq_nx, execs_cons, e, F.seq_rt, toR_rt]
  have tu : ev1 .tuple (.ref (M.length + 1)) M3 = some (.tup (made.map rl)) := by
    unfold ev1
    rw [rd_ref a3]
  by_cases t0 : turn = 0
  · subst t0
    exact fin made (List.Perm.refl _) (by simp [sAt, KB.b_law_rules, tu])
  · have t0' : ¬ (turn : Int) = 0 := by omega
    by_cases t1 : turn = 1
    · subst t1
      have bk : backD (.ref (M.length + 1)) M3 = some (.lst (made.map rl).reverse) := by
        unfold backD
        rw [rk_ref a3]
      refine fin made.reverse (List.reverse_perm made) ?_
      simp [sAt, KB.b_law_rules, bk]
    · have t1' : ¬ (turn : Int) = 1 := by omega
      have hd2 : (made.length : Int) / 2 = ((made.length / 2 : Nat) : Int) := by omega
      have ln : ev1 .len (.ref (M.length + 1)) M3 = some (.int made.length) := by rw [len_r a3]; simp
      have fd : ev2 .fdiv (.int made.length) (.int 2) M3 = some (.int ((made.length / 2 : Nat) : Int)) := by rw [fdiv_ii M3 (by decide), hd2]
      have sl1 : sliceI (.ref (M.length + 1)) (some ((made.length / 2 : Nat) : Int)) none M3 = some (.lst ((made.drop (made.length / 2)).map rl)) := by
        unfold sliceI
        rw [rd_ref a3]
        simp only [cut_from, List.map_drop]
      have sl2 : sliceI (.ref (M.length + 1)) none (some ((made.length / 2 : Nat) : Int)) M3 = some (.lst ((made.take (made.length / 2)).map rl)) := by
        unfold sliceI
        rw [rd_ref a3]
        simp only [cut_to, List.map_take]
      have ad : ev2 .add (.lst ((made.drop (made.length / 2)).map rl)) (.lst ((made.take (made.length / 2)).map rl)) M3 = some (.lst ((made.drop (made.length / 2) ++ made.take (made.length / 2)).map rl)) := by
        rw [add_ll M3 (by simp; have := m2.len; unfold line; omega)]
        simp
      refine fin (made.drop (made.length / 2) ++ made.take (made.length / 2)) ?_ ?_
      · refine List.perm_append_comm.trans ?_
        rw [List.take_append_drop]
      · generalize (made.drop (made.length / 2)).map rl = Q1 at *
        generalize (made.take (made.length / 2)).map rl = Q2 at *
        generalize hQ : (made.drop (made.length / 2) ++ made.take (made.length / 2)).map rl = Q3 at *
        simp only [sAt, KB.b_law_rules, exec_ret, ev_o1a, ev_ife, evB_o2, ev_o2a, ev_v, getV_succ, getV_zero, R.bind_ok, ev_c, eq_ii, ofO_some, truth_b, t0', t1', decide_false, Bool.false_eq_true, if_false, ev_sl, ev_o1a, ln, fd, partB_t, partB_f, sl1, sl2, ad, tuple_lst, R.toF_ok]
end
end PL
end
section
set_option Elab.async false
set_option linter.all false
set_option maxRecDepth 100000
set_option autoImplicit false
set_option maxHeartbeats 4000000
/-! PL9: changes there and back (law k11): its defs. -/
namespace PL
open DL
/-! ### lists of rules -/
theorem put_len (W : List Ru) (r : Ru) {j : Nat} (h : j ≤ W.length) : (putR W r j).length = W.length + 1 := by
  unfold putR
  simp
  omega
theorem put_take (W : List Ru) (r : Ru) {j : Nat} (h : j ≤ W.length) : (putR W r j).take j = W.take j := by
  unfold putR
  rw [List.take_append_of_le_length (by simp; omega), List.take_take, Nat.min_self]
theorem put_drop (W : List Ru) (r : Ru) {j : Nat} (h : j ≤ W.length) : (putR W r j).drop j = r :: W.drop j := by
  unfold putR
  rw [List.drop_append_of_le_length (by simp; omega), List.drop_take]
  simp
theorem put_drop1 (W : List Ru) (r : Ru) {j : Nat} (h : j ≤ W.length) : (putR W r j).drop (j + 1) = W.drop j := by
  rw [← List.drop_drop, put_drop W r h]
  rfl
theorem without_put (W : List Ru) (r : Ru) {j : Nat} (h : j ≤ W.length) : without (putR W r j) j = W := by
  unfold without
  rw [put_take W r h, put_drop1 W r h, List.take_append_drop]
theorem put_without {R : List Ru} {k : Nat} (h : k < R.length) : putR (without R k) R[k] k = R := by
  have e1 : (without R k).take k = R.take k := by
    unfold without
    rw [List.take_append_of_le_length (by simp; omega), List.take_take, Nat.min_self]
  have e2 : (without R k).drop k = R.drop (k + 1) := by
    unfold without
    rw [List.drop_append_of_le_length (by simp; omega), List.drop_take]
    simp
  unfold putR
  rw [e1, e2, ← List.drop_eq_getElem_cons h, List.take_append_drop]
theorem without_len {R : List Ru} {k : Nat} (h : k < R.length) : (without R k).length = R.length - 1 := by
  unfold without
  simp
  omega
theorem without_mem {R : List Ru} {k : Nat} {r : Ru} (h : r ∈ without R k) : r ∈ R := by
  unfold without at h
  rcases List.mem_append.mp h with h | h
  · exact List.mem_of_mem_take h
  · exact List.mem_of_mem_drop h
theorem put_perm (W : List Ru) (r : Ru) (j : Nat) : (putR W r j).Perm (r :: W) := by
  unfold putR
  refine List.perm_middle.trans ?_
  rw [List.take_append_drop]
theorem put_nodup {W : List Ru} {r : Ru} {j : Nat} (h : W.Nodup) (hr : r ∉ W) : (putR W r j).Nodup := (put_perm W r j).nodup_iff.mpr (List.nodup_cons.mpr ⟨hr, h⟩)
theorem put_mem {W : List Ru} {r x : Ru} {j : Nat} : x ∈ putR W r j ↔ x = r ∨ x ∈ W := by
  rw [(put_perm W r j).mem_iff, List.mem_cons]
theorem without_nodup {R : List Ru} {k : Nat} (h : R.Nodup) (hk : k < R.length) : (without R k).Nodup ∧ R[k] ∉ without R k := by
  have e := put_without hk
  have p := put_perm (without R k) R[k] k
  rw [e] at p
  have := List.nodup_cons.mp (p.nodup_iff.mp h)
  exact ⟨this.2, this.1⟩
theorem put_end (W : List Ru) (r : Ru) : putR W r W.length = W ++ [r] := by
  unfold putR
  simp
theorem swap_put {W : List Ru} {r : Ru} {j : Nat} (h : j < W.length) : swapR (putR W r j) j = putR W r (j + 1) := by
  have hd : W.drop j = W[j] :: W.drop (j + 1) := List.drop_eq_getElem_cons h
  have d2 : (putR W r j).drop (j + 2) = W.drop (j + 1) := by rw [← List.drop_drop (i := 2), put_drop W r (by omega), hd]; rfl
  have e : putR W r (j + 1) = W.take j ++ [W[j]] ++ r :: W.drop (j + 1) := by
    unfold putR
    rw [List.take_succ_eq_append_getElem h]
  unfold swapR
  rw [put_take W r (by omega), put_drop1 W r (by omega), put_drop W r (by omega), d2, hd, e]
  show W.take j ++ [W[j]] ++ [r] ++ W.drop (j + 1) = _
  simp only [List.append_assoc, List.singleton_append, List.cons_append, List.nil_append]
theorem swap_put' {W : List Ru} {r : Ru} {j : Nat} (h : j < W.length) : swapR (putR W r (j + 1)) j = putR W r j := by
  have e : putR W r (j + 1) = W.take j ++ W[j] :: r :: W.drop (j + 1) := by
    unfold putR
    rw [List.take_succ_eq_append_getElem h]
    simp only [List.append_assoc, List.singleton_append]
  have l : (W.take j).length = j := by simp; omega
  unfold swapR
  rw [e]
  have t1 : (W.take j ++ W[j] :: r :: W.drop (j + 1)).take j = W.take j := by rw [List.take_append_of_le_length (by omega), List.take_of_length_le (by omega)]
  have t2 : (W.take j ++ W[j] :: r :: W.drop (j + 1)).drop j = W[j] :: r :: W.drop (j + 1) := by rw [List.drop_append_of_le_length (by omega), List.drop_of_length_le (by omega)]; rfl
  have t3 : (W.take j ++ W[j] :: r :: W.drop (j + 1)).drop (j + 1) = r :: W.drop (j + 1) := by rw [← List.drop_drop (i := 1), t2]; rfl
  have t4 : (W.take j ++ W[j] :: r :: W.drop (j + 1)).drop (j + 2) = W.drop (j + 1) := by rw [← List.drop_drop (i := 2), t2]; rfl
  rw [t1, t2, t3, t4]
  unfold putR
  rw [List.drop_eq_getElem_cons h]
  simp
/-! ### data of tables -/
section
variable {L : List Nat} {rs rs' : D} {R : List Ru} {m : List Nat}
theorem dat_tab (h : asTup rs = some (R.map rl)) : Dat (tabD L rs m) = true := by simp [dat_as h, dats_rl, dats_sg]
theorem toP_tab (h : asTup rs = some (R.map rl)) (h' : asTup rs' = some (R.map rl)) : (tabD L rs m).toP = (tabD L rs' m).toP := by
  rw [D.toP, D.toP, toPs_map, toPs_map]
  simp only [List.map_cons, List.map_nil, toP_as h, toP_as h']
theorem depth_tab (h : asTup rs = some (R.map rl)) : (tabD L rs m).depth ≤ 3 := by
  rw [depth_key]
  have : D.depths [.tup (L.map sg), rs, .str m] ≤ 2 := depths_le _ fun d hd => by
    simp only [List.mem_cons, List.not_mem_nil, or_false] at hd
    rcases hd with rfl | rfl | rfl
    · rw [depth_tup]; have := depths_sg L; omega
    · rw [depth_as h]; have := depths_rl R; omega
    · simp [D.depth]
  omega
theorem wide_sg (L : List Nat) : Wides (L.map sg) = true := (wides_iff _).mpr fun d hd => by obtain ⟨c, _, rfl⟩ := List.mem_map.mp hd; rfl
theorem wide_rl (R : List Ru) : Wides (R.map rl) = true := (wides_iff _).mpr fun d hd => by
  obtain ⟨c, _, rfl⟩ := List.mem_map.mp hd
  rw [wide_key]; simp [line]
theorem wide_tab (h : asTup rs = some (R.map rl)) (h1 : L.length ≤ line) (h2 : R.length ≤ line) : Wide (tabD L rs m) = true := by
  rw [wide_key]
  simp [wide_as h, wide_tup, wide_sg, wide_rl, h1, h2]
  unfold line
  omega
end
section
variable {P : Fns} {u : Under}
theorem same_tab {S : List D → Store → R D} (h : SameTo 10 S) {L : List Nat} {rs rs' : D} {R : List Ru} {m : List Nat} (M : Store) (h1 : asTup rs = some (R.map rl)) (h2 : asTup rs' = some (R.map rl)) (hL : L.length ≤ 26) (hR : R.length ≤ 1000) : S [tabD L rs m, tabD L rs' m] M = .ok (.bl true) M :=
  h _ _ M (dat_tab h1) (dat_tab h2) (toP_tab h1 h2) (by have := depth_tab (L := L) (m := m) h2; omega) (wide_tab h2 (by unfold line; omega) (by unfold line; omega))
theorem same_rs {S : List D → Store → R D} (h : SameTo 10 S) {rs rs' : D} {R : List Ru} (M : Store) (h1 : asTup rs = some (R.map rl)) (h2 : asTup rs' = some (R.map rl)) (hR : R.length ≤ 1000) : S [rs, rs'] M = .ok (.bl true) M :=
  h _ _ M (by rw [dat_as h1]; exact dats_rl R) (by rw [dat_as h2]; exact dats_rl R) (by rw [toP_as h1, toP_as h2]) (by rw [depth_as h2]; have := depths_rl R; omega) (by rw [wide_as h2]; simp [wide_rl]; unfold line; omega)
theorem same_int {S : List D → Store → R D} (h : SameTo 10 S) (i : Int) (M : Store) : S [.int i, .int i] M = .ok (.bl true) M := h _ _ M rfl rfl rfl (by simp [D.depth]) rfl
/-! ### there and back -/
def Filled (S : List D → Store → R D) : Prop := ∀ (L : List Nat) (rs : D) (R : List Ru) (m : List Nat) (k : Nat) (M : Store), asTup rs = some (R.map rl) → TabOk L R m → k ≤ R.length → S [tabD L rs m, .int k] M = .ok (.bl true) M
theorem filled_run {f1 f2 f3 c : Nat} (h1 : SameTo 10 (P.S f1)) (h2 : FirstRules c (P.S f2)) (h3 : WithRule c (P.S f3)) : Filled (runF P u 1 4 (KB.b_law_filled f1 f2 f3)) := fun L rs R m k M hR t hk => by
  refine run1' ?_ rfl
  have l26 := len26 t.asc t.low
  have lR := t.many
  obtain ⟨rs1, a1, e1⟩ := h2.yes L rs R m k M hR hk
  obtain ⟨d1, s1, b1⟩ := slice_ex hR none (some (k : Int)) M
  obtain ⟨d2, s2, b2⟩ := slice_ex hR (some (k : Int)) none M
  rw [cut_to] at b1
  rw [cut_from] at b2
  have b1' : asTup d1 = some ((R.take k).map rl) := by rw [b1]; simp
  have q1 := same_rs h1 M a1 b1' (by simp; omega)
  have wk := walked_as b2 M
  have lp := loop_all (g := none) (xs := (R.map rl).drop k) (f := forF P u (.nm 3) (forB (sAt (KB.b_law_filled f1 f2 f3) 2))) (M := M) (ρ := [some (tabD L rs m), some (.int k), some (tabD L rs1 m), none])
    (fun pre ρ M' => M' = M ∧ ∃ rs2 a, ρ = [some (tabD L rs m), some (.int k), some (tabD L rs2 m), a] ∧ asTup rs2 = some ((R.take (k + pre.length)).map rl)) (fun _ _ _ _ => trivial) ⟨rfl, rs1, none, rfl, by simpa using a1⟩ (fun pre x suf ρ M' e0 hJ => by
      obtain ⟨rfl, rs2, a, rfl, a2⟩ := hJ
      have lt : k + pre.length < R.length := by
        have := congrArg List.length e0
        simp at this
        omega
      have ex : x = rl R[k + pre.length] := by
        have := congrArg (fun l => l[pre.length]?) e0
        simp only [List.getElem?_append_right (Nat.le_refl _), Nat.sub_self, List.getElem?_cons_zero, List.getElem?_drop, List.getElem?_map] at this
        rw [List.getElem?_eq_getElem lt] at this
        simpa using this
      have tk : R.take (k + (pre ++ [x]).length) = R.take (k + pre.length) ++ [R[k + pre.length]] := by
        rw [List.length_append, List.length_singleton, ← Nat.add_assoc, List.take_succ_eq_append_getElem lt]
      have ni : R[k + pre.length] ∉ R.take (k + pre.length) := fun q => by
        have nd := t.nd
        rw [← List.take_append_drop (k + pre.length) R, List.drop_eq_getElem_cons lt] at nd
        exact (List.nodup_append.mp nd).2.2 _ q _ List.mem_cons_self rfl
      have wr := h3.end_ L rs2 (R.take (k + pre.length)) m R[k + pre.length] M' a2 (rOk_of (t.len _ (List.getElem_mem lt))) (by simp; unfold line; omega) (t.ru _ (List.getElem_mem lt)) ni
      generalize hR2 : R.take (k + pre.length) ++ [R[k + pre.length]] = R2 at wr tk
      refine ⟨[some (tabD L rs m), some (.int k), some (tabD L (.key (R2.map rl)) m), some x], M', .inl ?_, rfl, .key (R2.map rl), some x, rfl, ?_⟩
      · rw [ex]
        simp [sAt, forB, KB.b_law_filled, pick, idPm, List.range, List.range.loop, wr]
      · rw [tk]; rfl)
  obtain ⟨ρ2, M2, lp, rfl, rs2, a, rfl, a2⟩ := lp
  have a2 : asTup rs2 = some (R.map rl) := by
    rw [a2, List.length_drop, List.length_map, show k + (R.length - k) = R.length by omega, List.take_of_length_le (Nat.le_refl _)]
  have q2 := same_tab (L := L) (m := m) h1 M2 a2 hR l26 (by omega)
  obtain ⟨rs3, a3, e3⟩ := h2.yes L rs2 R m R.length M2 a2 (Nat.le_refl _)
  have a3 : asTup rs3 = some (R.map rl) := by rw [a3, List.take_of_length_le (Nat.le_refl _)]
  have q3 := same_tab (L := L) (m := m) h1 M2 a3 hR l26 (by omega)
  have hb : KB.b_law_filled f1 f2 f3 = .cons (sAt (KB.b_law_filled f1 f2 f3) 0) (.cons (sAt (KB.b_law_filled f1 f2 f3) 1) (.cons (.for_ (.nm 3) (.seq (.sl true false (.o2 .ix (.v 0) (.c (.int 1))) (.v 1) (.c .non))) (forB (sAt (KB.b_law_filled f1 f2 f3) 2))) (.cons (sAt (KB.b_law_filled f1 f2 f3) 3) .nil))) := rfl
  have st0 : exec P u (sAt (KB.b_law_filled f1 f2 f3) 0) (startE 4 [tabD L rs m, .int k]) M2 = .nx [some (tabD L rs m), some (.int k), some (tabD L rs1 m), none] M2 := by
    simp [sAt, KB.b_law_filled, startE, e1]
  have st1 : exec P u (sAt (KB.b_law_filled f1 f2 f3) 1) [some (tabD L rs m), some (.int k), some (tabD L rs1 m), none] M2 = .nx [some (tabD L rs m), some (.int k), some (tabD L rs1 m), none] M2 := by
    simp [sAt, KB.b_law_filled, s1, q1]
  have en : evI P (.seq (.sl true false (.o2 .ix (.v 0) (.c (.int 1))) (.v 1) (.c .non))) [some (tabD L rs m), some (.int k), some (tabD L rs1 m), none] M2 = .ok ((R.map rl).drop k, none) M2 := by
    simp [s2, wk]
  have st3 : exec P u (sAt (KB.b_law_filled f1 f2 f3) 3) [some (tabD L rs m), some (.int k), some (tabD L rs2 m), a] M2 = .rt (.bl true) M2 := by
    simp [sAt, KB.b_law_filled, q2, len_as hR, e3, q3]
  rw [hb, execs_cons, st0, F.seq_nx, execs_cons, st1, F.seq_nx, execs_cons, exec_for, en, DL.R.toF_ok]
  simp only
  rw [lp, F.seq_nx, execs_cons, st3, F.seq_rt, toR_rt]
def Undone (S : List D → Store → R D) : Prop := ∀ (L : List Nat) (rs : D) (R : List Ru) (m : List Nat) (k : Nat) (M : Store), asTup rs = some (R.map rl) → TabOk L R m → k < R.length → S [tabD L rs m, .int k] M = .ok (.bl true) M
theorem range_ab (a n : Nat) : range (a : Int) ((a + n : Nat) : Int) = (List.range n).map fun i => D.int ((a + i : Nat) : Int) := by
  unfold range
  have : (((a + n : Nat) : Int) - (a : Int)).toNat = n := by omega
  rw [this]
  apply List.map_congr_left
  intro i _
  simp
theorem undone_run {f1 f2 f3 f4 c : Nat} (h1 : SameTo 10 (P.S f1)) (h2 : Exchanged c (P.S f2)) (h3 : WithoutRule c (P.S f3)) (h4 : WithRule c (P.S f4)) : Undone (runF P u 1 8 (KB.b_law_undone f1 f2 f3 f4)) := fun L rs R m k M hR t hk => by
  refine run1' ?_ rfl
  have l26 := len26 t.asc t.low
  have lR := t.many
  have hln : R.length < line := by unfold line; omega
  obtain ⟨W, hW⟩ : ∃ W, W = without R k := ⟨_, rfl⟩
  obtain ⟨r, hr⟩ : ∃ r, r = R[k] := ⟨_, rfl⟩
  have lW : W.length = R.length - 1 := by rw [hW]; exact without_len hk
  have nd := without_nodup t.nd hk
  rw [← hW, ← hr] at nd
  have eR : putR W r k = R := by rw [hW, hr]; exact put_without hk
  have rm : r ∈ R := by rw [hr]; exact List.getElem_mem hk
  have e1 := h3.out L rs R m k M hR hln hk
  rw [← hW] at e1
  have ix1 : ev2 .ix rs (.int (k : Int)) M = some (rl r) := by rw [ix_as hR, nth_map rl R k hk, hr]
  have e2 := h4.put L (.key (W.map rl)) W m r k M rfl (rOk_of (t.len r rm)) (by omega) (t.ru r rm) nd.2 (by omega)
  rw [eR] at e2
  have q1 := same_tab (L := L) (m := m) h1 M (rs := .key (R.map rl)) rfl hR l26 (by omega)
  have e3 := h4.end_ L (.key (W.map rl)) W m r M rfl (rOk_of (t.len r rm)) (by omega) (t.ru r rm) nd.2
  have e4 := h3.out L (.key ((W ++ [r]).map rl)) (W ++ [r]) m W.length M rfl (by simp; omega) (by simp)
  have e5 : without (W ++ [r]) W.length = W := by rw [← put_end]; exact without_put W r (Nat.le_refl _)
  rw [e5] at e4
  have q2 := same_tab (L := L) (m := m) h1 M (rs := .key (W.map rl)) (rs' := .key (W.map rl)) rfl rfl l26 (by omega)
  generalize hE : (W ++ [r]).map rl = E at e3 e4
  have hE1 : asTup (.key E) = some ((W ++ [r]).map rl) := by rw [hE]; rfl
  have n1 : (R.length : Int) - 1 = (W.length : Int) := by omega
  have hb : KB.b_law_undone f1 f2 f3 f4 = .cons (sAt (KB.b_law_undone f1 f2 f3 f4) 0) (.cons (sAt (KB.b_law_undone f1 f2 f3 f4) 1) (.cons (sAt (KB.b_law_undone f1 f2 f3 f4) 2) (.cons (sAt (KB.b_law_undone f1 f2 f3 f4) 3) (.cons (sAt (KB.b_law_undone f1 f2 f3 f4) 4) (.cons (sAt (KB.b_law_undone f1 f2 f3 f4) 5)
      (.cons (.for_ (.nm 6) (.rng2 (.v 1) (.o2 .sub (.o1 .len (.v 2)) (.c (.int 1)))) (forB (sAt (KB.b_law_undone f1 f2 f3 f4) 6))) (.cons (sAt (KB.b_law_undone f1 f2 f3 f4) 7) .nil))))))) := rfl
  have st0 : exec P u (sAt (KB.b_law_undone f1 f2 f3 f4) 0) (startE 8 [tabD L rs m, .int k]) M = .nx [some (tabD L rs m), some (.int k), some rs, none, none, none, none, none] M := by
    simp [sAt, KB.b_law_undone, startE]
  have st1 : exec P u (sAt (KB.b_law_undone f1 f2 f3 f4) 1) [some (tabD L rs m), some (.int k), some rs, none, none, none, none, none] M = .nx [some (tabD L rs m), some (.int k), some rs, some (tabD L (.key (W.map rl)) m), none, none, none, none] M := by
    simp [sAt, KB.b_law_undone, e1]
  have st2 : exec P u (sAt (KB.b_law_undone f1 f2 f3 f4) 2) [some (tabD L rs m), some (.int k), some rs, some (tabD L (.key (W.map rl)) m), none, none, none, none] M = .nx [some (tabD L rs m), some (.int k), some rs, some (tabD L (.key (W.map rl)) m), none, none, none, none] M := by
    simp [sAt, KB.b_law_undone, ix1, e2, q1]
  have st3 : exec P u (sAt (KB.b_law_undone f1 f2 f3 f4) 3) [some (tabD L rs m), some (.int k), some rs, some (tabD L (.key (W.map rl)) m), none, none, none, none] M = .nx [some (tabD L rs m), some (.int k), some rs, some (tabD L (.key (W.map rl)) m), some (tabD L (.key E) m), none, none, none] M := by
    simp [sAt, KB.b_law_undone, ix1, pick, idPm, List.range, List.range.loop, e3]
  have st4 : exec P u (sAt (KB.b_law_undone f1 f2 f3 f4) 4) [some (tabD L rs m), some (.int k), some rs, some (tabD L (.key (W.map rl)) m), some (tabD L (.key E) m), none, none, none] M = .nx [some (tabD L rs m), some (.int k), some rs, some (tabD L (.key (W.map rl)) m), some (tabD L (.key E) m), none, none, none] M := by
    simp [sAt, KB.b_law_undone, len_as hR, n1, e4, q2]
  have st5 : exec P u (sAt (KB.b_law_undone f1 f2 f3 f4) 5) [some (tabD L rs m), some (.int k), some rs, some (tabD L (.key (W.map rl)) m), some (tabD L (.key E) m), none, none, none] M = .nx [some (tabD L rs m), some (.int k), some rs, some (tabD L (.key (W.map rl)) m), some (tabD L (.key E) m), some (tabD L rs m), none, none] M := by
    simp [sAt, KB.b_law_undone]
  have en : evI P (.rng2 (.v 1) (.o2 .sub (.o1 .len (.v 2)) (.c (.int 1)))) [some (tabD L rs m), some (.int k), some rs, some (tabD L (.key (W.map rl)) m), some (tabD L (.key E) m), some (tabD L rs m), none, none] M = .ok ((List.range (W.length - k)).map fun i => D.int ((k + i : Nat) : Int), none) M := by
    rw [rng2_of (M1 := M) (M2 := M) (i := (k : Int)) (j := (W.length : Int)) (by simp) (by simp [len_as hR, n1]) (by rw [big_len (by omega), big_len (by omega)]; rfl)]
    have := range_ab k (W.length - k)
    rw [show k + (W.length - k) = W.length by omega] at this
    rw [this]
  obtain ⟨ρ2, M2, lp, J2⟩ := loop_all (g := none) (xs := (List.range (W.length - k)).map fun i => D.int ((k + i : Nat) : Int)) (f := forF P u (.nm 6) (forB (sAt (KB.b_law_undone f1 f2 f3 f4) 6))) (M := M) (ρ := [some (tabD L rs m), some (.int k), some rs, some (tabD L (.key (W.map rl)) m), some (tabD L (.key E) m), some (tabD L rs m), none, none])
    (fun pre ρ M' => M' = M ∧ ∃ rs2 a b, ρ = [some (tabD L rs m), some (.int k), some rs, some (tabD L (.key (W.map rl)) m), some (tabD L (.key E) m), some (tabD L rs2 m), a, b] ∧ asTup rs2 = some ((putR W r (k + pre.length)).map rl)) (fun _ _ _ _ => trivial) ⟨rfl, rs, none, none, rfl, by simpa [eR] using hR⟩ (fun pre x suf ρ M' e0 hJ => by
      obtain ⟨rfl, rs2, a, b, rfl, a2⟩ := hJ
      have lt : k + pre.length < W.length := by
        have := congrArg List.length e0
        simp at this
        omega
      have ex : x = .int ((k + pre.length : Nat) : Int) := by
        have := congrArg (fun l => l[pre.length]?) e0
        simp only [List.getElem?_append_right (Nat.le_refl _), Nat.sub_self, List.getElem?_cons_zero, List.getElem?_map] at this
        rw [List.getElem?_range (by omega)] at this
        simpa using this
      have lp1 : (putR W r (k + pre.length)).length = W.length + 1 := put_len W r (by omega)
      have x1 := h2.sw L rs2 (putR W r (k + pre.length)) m (k + pre.length) M' a2 (by omega) (by omega)
      rw [swap_put lt] at x1
      have x2 := h2.sw L (.tup ((putR W r (k + pre.length + 1)).map rl)) (putR W r (k + pre.length + 1)) m (k + pre.length) M' rfl (by rw [put_len W r (by omega)]; omega) (by rw [put_len W r (by omega)]; omega)
      rw [swap_put' lt] at x2
      have q := same_tab (L := L) (m := m) h1 M' (rs := .tup ((putR W r (k + pre.length)).map rl)) rfl a2 l26 (by omega)
      generalize hR2 : (putR W r (k + pre.length + 1)).map rl = R2 at x1 x2
      generalize hR3 : (putR W r (k + pre.length)).map rl = R3 at x2 q
      refine ⟨[some (tabD L rs m), some (.int k), some rs, some (tabD L (.key (W.map rl)) m), some (tabD L (.key E) m), some (tabD L (.tup R2) m), some x, some (tabD L (.tup R2) m)], M', .inl ?_, rfl, .tup R2, some x, _, rfl, ?_⟩
      · rw [ex]
        generalize ((k + pre.length : Nat) : Int) = z at *
        simp [sAt, forB, KB.b_law_undone, x1, x2, q]
      · rw [← hR2]
        simp [Nat.add_assoc])
  obtain ⟨rfl, rs2, a, b, rfl, a2⟩ := J2
  have a2 : asTup rs2 = some ((W ++ [r]).map rl) := by
    rw [a2, List.length_map, List.length_range, show k + (W.length - k) = W.length by omega, put_end]
  have q3 := same_tab (L := L) (m := m) h1 M2 a2 hE1 l26 (by simp; omega)
  have st7 : exec P u (sAt (KB.b_law_undone f1 f2 f3 f4) 7) [some (tabD L rs m), some (.int k), some rs, some (tabD L (.key (W.map rl)) m), some (tabD L (.key E) m), some (tabD L rs2 m), a, b] M2 = .rt (.bl true) M2 := by
    simp [sAt, KB.b_law_undone, q3]
  rw [hb, execs_cons, st0, F.seq_nx, execs_cons, st1, F.seq_nx, execs_cons, st2, F.seq_nx, execs_cons, st3, F.seq_nx, execs_cons, st4, F.seq_nx, execs_cons, st5, F.seq_nx, execs_cons, exec_for, en, DL.R.toF_ok]
  simp only
  rw [lp, F.seq_nx, execs_cons, st7, F.seq_rt, toR_rt]
end
end PL
end
section
set_option Elab.async false
set_option linter.all false
set_option maxRecDepth 100000
set_option autoImplicit false
set_option maxHeartbeats 4000000
/-! PL10: a rule more through a mirror and new letters; what is put; changes (law k11). -/
namespace PL
open DL
theorem index_ren {c : Nat} : ∀ {L N : List Nat}, c ∈ L → N.length = L.length → ∃ i, indexS (L.map fun c => [c]) [c] = some i ∧ N[i]? = some (ren L N c) ∧ L[i]? = some c
  | [], _, h, _ => by cases h
  | a :: L, [], _, h => by cases h
  | a :: L, b :: N, h, hl => by
    rw [List.map_cons]
    by_cases e : a = c
    · subst e
      refine ⟨0, ?_, ?_, rfl⟩
      · show (if [a] = [a] then some 0 else _) = _
        rw [if_pos rfl]
      · simp [ren]
    · have hc : c ∈ L := (List.mem_cons.mp h).resolve_left fun q => e q.symm
      obtain ⟨i, h1, h2, h3⟩ := index_ren (N := N) hc (by simpa using hl)
      refine ⟨i + 1, ?_, ?_, by simpa using h3⟩
      · show (if [a] = [c] then some 0 else (indexS (L.map fun c => [c]) [c]).map (· + 1)) = _
        rw [if_neg (fun q => e (by injection q)), h1]
        rfl
      · have : (c == a) = false := by simpa using fun q => e q.symm
        have : ren (a :: L) (b :: N) c = ren L N c := by
          unfold ren
          rw [List.zip_cons_cons, List.lookup_cons, this]
        rw [this]
        simpa using h2
theorem ren_mem {L N : List Nat} {c : Nat} (h : c ∈ L) (hl : N.length = L.length) : ren L N c ∈ N := by
  obtain ⟨i, _, h2, _⟩ := index_ren h hl
  exact List.mem_of_getElem? h2
theorem nodup_inj {N : List Nat} (h : N.Nodup) {i j : Nat} {x : Nat} (h1 : N[i]? = some x) (h2 : N[j]? = some x) : i = j := by
  obtain ⟨hi, e1⟩ := List.getElem?_eq_some_iff.mp h1
  obtain ⟨hj, e2⟩ := List.getElem?_eq_some_iff.mp h2
  have p := List.pairwise_iff_getElem.mp h
  rcases Nat.lt_trichotomy i j with q | q | q
  · exact absurd (e1.trans e2.symm) (p i j hi hj q)
  · exact q
  · exact absurd (e2.trans e1.symm) (p j i hj hi q)
theorem ren_inj {L N : List Nat} {c d : Nat} (hc : c ∈ L) (hd : d ∈ L) (hl : N.length = L.length) (hN : N.Nodup) (e : ren L N c = ren L N d) : c = d := by
  obtain ⟨i, _, h2, h3⟩ := index_ren hc hl
  obtain ⟨j, _, k2, k3⟩ := index_ren hd hl
  rw [← e] at k2
  have ij : i = j := nodup_inj hN h2 k2
  subst ij
  rw [h3] at k3
  exact Option.some.inj k3
theorem map_inj_on {f : Nat → Nat} {L : List Nat} (hf : ∀ c ∈ L, ∀ d ∈ L, f c = f d → c = d) : ∀ {x y : List Nat}, (∀ c ∈ x, c ∈ L) → (∀ c ∈ y, c ∈ L) → x.map f = y.map f → x = y
  | [], [], _, _, _ => rfl
  | [], _ :: _, _, _, h => by cases h
  | _ :: _, [], _, _, h => by cases h
  | a :: x, b :: y, hx, hy, h => by
    rw [List.map_cons, List.map_cons] at h
    injection h with h1 h2
    rw [hf a (hx a List.mem_cons_self) b (hy b List.mem_cons_self) h1, map_inj_on hf (fun c hc => hx c (List.mem_cons_of_mem _ hc)) (fun c hc => hy c (List.mem_cons_of_mem _ hc)) h2]
theorem ruleOf_iff {L : List Nat} {r : Ru} : ruleOf L r = true ↔ (r.1.all low = true ∧ r.1 ≠ []) ∧ (r.2.all low = true ∧ r.2 ≠ []) ∧ (∀ c ∈ r.1, c ∈ L) ∧ ∀ c ∈ r.2, c ∈ L := by
  unfold ruleOf pc
  simp only [Bool.and_eq_true, decide_eq_true_eq, List.all_eq_true]
  constructor
  · rintro ⟨⟨h1, h2⟩, h3, h4⟩
    exact ⟨h1, h2, h3, h4⟩
  · rintro ⟨h1, h2, h3, h4⟩
    exact ⟨⟨h1, h2⟩, h3, h4⟩
theorem ruleOf_low {L : List Nat} {r : Ru} (hL : ∀ c ∈ L, low c = true) (h1 : r.1 ≠ []) (h2 : r.2 ≠ []) (h3 : ∀ c ∈ r.1, c ∈ L) (h4 : ∀ c ∈ r.2, c ∈ L) : ruleOf L r = true :=
  ruleOf_iff.mpr ⟨⟨List.all_eq_true.mpr fun c hc => hL c (h3 c hc), h1⟩, ⟨List.all_eq_true.mpr fun c hc => hL c (h4 c hc), h2⟩, h3, h4⟩
section
variable {P : Fns} {u : Under}
def Through (S : List D → Store → R D) : Prop := ∀ (L N : List Nat) (rs : D) (R : List Ru) (m : List Nat) (r : Ru) (k : Nat) (M : Store), asTup rs = some (R.map rl) → TabOk L R m → (r.1.length ≤ 100 ∧ r.2.length ≤ 100) → ruleOf L r = true → r ∉ R → k ≤ R.length →
  N.Nodup → (∀ c ∈ N, low c = true) → N.length = L.length → S [tabD L rs m, rl r, .int k, .tup (N.map sg)] M = .ok (.bl true) M
theorem through_run {w f1 f2 f3 c : Nat} {fm : Nat} (h1 : Mirrored (P.Wd w) (P.S fm)) (h2 : WithRule c (P.S f1)) (h3 : SameTo 10 (P.S f2)) (h4 : Renamed (P.S f3)) (hw : ∀ m ∈ MAN, m ≠ [111, 110, 99, 101] → ∃ m2, (P.Wd w).lookup m = some (.str m2)) : Through (runF P u 1 11 (KB.b_law_through fm f1 f2 f3)) := fun L N rs R m r k M hR t hr ho hn hk nN lN hlen => by
  refine run1' ?_ rfl
  have l26 := len26 t.asc t.low
  have lR := t.many
  have ri := ruleOf_iff.mp ho
  have mem : ∀ c ∈ r.1 ++ r.2, c ∈ L := fun c hc => (List.mem_append.mp hc).elim (ri.2.2.1 c) (ri.2.2.2 c)
  have e1 := h2.put L rs R m r k M hR (rOk_of hr) (by unfold line; omega) ho hn hk
  have ad : ev2 .add (.str r.1) (.str r.2) M = some (.str (r.1 ++ r.2)) := add_ss M (by unfold line; omega)
  have ll : (r.1 ++ r.2).length ≤ line := by simp; unfold line; omega
  have lr : ev1 .len (.str r.1) M = some (.int r.1.length) := len_s M (by unfold line; omega)
  obtain ⟨idx, hidx⟩ : ∃ idx : Nat → Nat, ∀ c ∈ L, indexS (L.map fun c => [c]) [c] = some (idx c) ∧ N[idx c]? = some (ren L N c) := by
    refine ⟨fun c => (indexS (L.map fun c => [c]) [c]).getD 0, fun c hc => ?_⟩
    obtain ⟨i, q1, q2, _⟩ := index_ren hc hlen
    simp only [q1, Option.getD_some]
    exact ⟨trivial, q2⟩
  have ixT : ∀ c ∈ L, ev2 .indexT (.tup (L.map sg)) (.str [c]) M = some (.int (idx c : Nat)) := fun c hc => by
    show (match strsOf (L.map sg) with | some xs => (indexS xs [c]).map (fun j => D.int (j : Nat)) | none => none) = _
    rw [show (L.map sg) = L.map (fun c => D.str [c]) from rfl, strsOf_map (fun c => [c]) L]
    simp only [(hidx c hc).1]
    rfl
  have ixN : ∀ c ∈ L, nth (N.map sg) ((idx c : Nat) : Int) = some (sg (ren L N c)) := fun c hc => by
    have q := (hidx c hc).2
    have hi := (List.getElem?_eq_some_iff.mp q).1
    rw [nth_nat _ _ (by simpa using hi), List.getElem_map]
    rw [List.getElem?_eq_getElem hi] at q
    rw [Option.some.inj q]
  have hb : KB.b_law_through fm f1 f2 f3 = .cons (sAt (KB.b_law_through fm f1 f2 f3) 0) (.cons (sAt (KB.b_law_through fm f1 f2 f3) 1) (.cons (sAt (KB.b_law_through fm f1 f2 f3) 2) (.cons (sAt (KB.b_law_through fm f1 f2 f3) 3) (.cons (sAt (KB.b_law_through fm f1 f2 f3) 4) (.cons (sAt (KB.b_law_through fm f1 f2 f3) 5) (.cons (sAt (KB.b_law_through fm f1 f2 f3) 6) (.cons (sAt (KB.b_law_through fm f1 f2 f3) 7) .nil))))))) := rfl
  have st0 : exec P u (sAt (KB.b_law_through fm f1 f2 f3) 0) (startE 11 [tabD L rs m, rl r, .int k, .tup (N.map sg)]) M = .nx [some (tabD L rs m), some (rl r), some (.int k), some (.tup (N.map sg)), some (tabD L (.key ((putR R r k).map rl)) m), none, none, none, none, none, none] M := by
    simp only [sAt, KB.b_law_through, startE, List.map_cons, List.map_nil, List.length_cons, List.length_nil, List.cons_append, List.nil_append, List.replicate]
    generalize (putR R r k).map rl = R2 at e1 ⊢
    simp [e1]
  have inner : ∀ f : D → Store → DL.R (Option D), (∀ c ∈ L, f (.str [c]) M = .ok (some (.int (idx c : Nat))) M) → comp none (letters (r.1 ++ r.2)) f (letters (r.1 ++ r.2)) [] M = .ok ((r.1 ++ r.2).map fun c => D.int (idx c : Nat)) M := fun f hf => by
    rw [letters, comp_vals (g := none) sg (fun c => some (D.int (idx c : Nat))) trivial _ (fun c hc => hf c (mem c hc)) ll]
    simp
  have st1 : ∀ T : D, exec P u (sAt (KB.b_law_through fm f1 f2 f3) 1) [some (tabD L rs m), some (rl r), some (.int k), some (.tup (N.map sg)), some T, none, none, none, none, none, none] M = .nx [some (tabD L rs m), some (rl r), some (.int k), some (.tup (N.map sg)), some T, some (.lst ((r.1 ++ r.2).map fun c => D.int (idx c : Nat))), none, none, none, none, none] M := fun T => by
    simp only [sAt, KB.b_law_through]
    generalize hQ : ((r.1 ++ r.2).map fun c => D.int (idx c : Nat)) = Q at *
    simp [ad, walked_str M ll]
    rw [inner _ (fun c hc => by simp [okR, ixT c hc])]
    simp
  have inner2 : ∀ f : D → Store → DL.R (Option D), (∀ c ∈ L, f (.int (idx c : Nat)) M = .ok (some (sg (ren L N c))) M) → comp none ((r.1 ++ r.2).map fun c => D.int (idx c : Nat)) f ((r.1 ++ r.2).map fun c => D.int (idx c : Nat)) [] M = .ok (((r.1 ++ r.2).map (ren L N)).map sg) M := fun f hf => by
    rw [comp_vals (g := none) (fun c => D.int (idx c : Nat)) (fun c => some (sg (ren L N c))) trivial _ (fun c hc => hf c (mem c hc)) ll]
    simp [Function.comp_def]
  have st2 : ∀ T : D, exec P u (sAt (KB.b_law_through fm f1 f2 f3) 2) [some (tabD L rs m), some (rl r), some (.int k), some (.tup (N.map sg)), some T, some (.lst ((r.1 ++ r.2).map fun c => D.int (idx c : Nat))), none, none, none, none, none] M = .nx [some (tabD L rs m), some (rl r), some (.int k), some (.tup (N.map sg)), some T, some (.lst ((r.1 ++ r.2).map fun c => D.int (idx c : Nat))), some (.str ((r.1 ++ r.2).map (ren L N))), none, none, none, none] M := fun T => by
    have jn := join_sg (xs := (r.1 ++ r.2).map (ren L N)) M (by simpa using ll)
    have ixN' : ∀ c ∈ L, ∀ M, ev2 .ix (.tup (N.map sg)) (.int (idx c : Nat)) M = some (sg (ren L N c)) := fun c hc M => by rw [ix_tup]; exact ixN c hc
    simp only [sAt, KB.b_law_through]
    generalize hQ : ((r.1 ++ r.2).map fun c => D.int (idx c : Nat)) = Q at *
    generalize hQ2 : (r.1 ++ r.2).map (ren L N) = Q2 at *
    generalize hN2 : N.map sg = N2 at *
    simp
    rw [inner2 _ (fun c hc => by have := ixN c hc; simp [this])]
    simp [jn]
  have st3 : ∀ T Q : D, exec P u (sAt (KB.b_law_through fm f1 f2 f3) 3) [some (tabD L rs m), some (rl r), some (.int k), some (.tup (N.map sg)), some T, some Q, some (.str ((r.1 ++ r.2).map (ren L N))), none, none, none, none] M = .nx [some (tabD L rs m), some (rl r), some (.int k), some (.tup (N.map sg)), some T, some Q, some (.str ((r.1 ++ r.2).map (ren L N))), some (rl (renR L N r)), none, none, none] M := fun T Q => by
    have s1 := slice_str (x := (r.1 ++ r.2).map (ren L N)) none (some ((r.1.length : Nat) : Int)) M (by simpa using ll)
    have s2 := slice_str (x := (r.1 ++ r.2).map (ren L N)) (some ((r.1.length : Nat) : Int)) none M (by simpa using ll)
    rw [cut_to] at s1
    rw [cut_from] at s2
    have t1 : ((r.1 ++ r.2).map (ren L N)).take r.1.length = r.1.map (ren L N) := by simp
    have t2 : ((r.1 ++ r.2).map (ren L N)).drop r.1.length = r.2.map (ren L N) := by simp
    rw [t1] at s1
    rw [t2] at s2
    simp only [sAt, KB.b_law_through]
    generalize (r.1 ++ r.2).map (ren L N) = Z at *
    simp [lr, s1, s2, line, renR]
  -- the new letters
  have rOkAll : ∀ x ∈ putR R r k, rOk x ∧ (∀ c ∈ x.1, c ∈ L) ∧ ∀ c ∈ x.2, c ∈ L := fun x hx => by
    rcases put_mem.mp hx with rfl | hx
    · exact ⟨rOk_of hr, ri.2.2.1, ri.2.2.2⟩
    · have := ruleOf_iff.mp (t.ru x hx)
      exact ⟨rOk_of (t.len x hx), this.2.2.1, this.2.2.2⟩
  have lput : (putR R r k).length = R.length + 1 := put_len R r hk
  have n60 : N.length < 60 := by omega
  have e2 := h4 L N (.key ((putR R r k).map rl)) (putR R r k) m M rfl (by unfold line; omega) rOkAll t.nodup nN lN hlen n60
  have e3 := h4 L N rs R m M hR (by unfold line; omega) (fun x hx => rOkAll x (put_mem.mpr (.inr hx))) t.nodup nN lN hlen n60
  have inj : ∀ c ∈ L, ∀ d ∈ L, ren L N c = ren L N d → c = d := fun c hc d hd e => ren_inj hc hd hlen nN e
  have lenR : (renR L N r).1.length ≤ 100 ∧ (renR L N r).2.length ≤ 100 := by simpa [renR] using hr
  have oR : ruleOf (sortC N) (renR L N r) = true := by
    refine ruleOf_low (fun c hc => lN c ((sortC_mem c N).mp hc)) (by simpa [renR] using ri.1.2) (by simpa [renR] using ri.2.1.2) (fun c hc => ?_) (fun c hc => ?_)
    · obtain ⟨d, hd, rfl⟩ := List.mem_map.mp hc
      exact (sortC_mem _ N).mpr (ren_mem (ri.2.2.1 d hd) hlen)
    · obtain ⟨d, hd, rfl⟩ := List.mem_map.mp hc
      exact (sortC_mem _ N).mpr (ren_mem (ri.2.2.2 d hd) hlen)
  have nR : renR L N r ∉ R.map (renR L N) := fun q => by
    obtain ⟨x, hx, e⟩ := List.mem_map.mp q
    have rx := ruleOf_iff.mp (t.ru x hx)
    have a1 : x.1 = r.1 := map_inj_on inj rx.2.2.1 ri.2.2.1 (congrArg Prod.fst e)
    have a2 : x.2 = r.2 := map_inj_on inj rx.2.2.2 ri.2.2.2 (congrArg Prod.snd e)
    exact hn ((Prod.ext a1 a2 : x = r) ▸ hx)
  have e4 := h2.put (sortC N) (.tup ((R.map (renR L N)).map rl)) (R.map (renR L N)) m (renR L N r) k M rfl (rOk_of lenR) (by simp; unfold line; omega) oR nR (by simpa using hk)
  have pe : (putR R r k).map (renR L N) = putR (R.map (renR L N)) (renR L N r) k := by
    unfold putR
    simp [List.map_take, List.map_drop]
  have sl : (sortC N).length ≤ 26 := by
    have : ∀ N : List Nat, (sortC N).length = N.length := by
      intro N
      induction N with
      | nil => rfl
      | cons a N ih =>
        have il : ∀ (x : Nat) (ys : List Nat), (insS (fun a b => decide (a < b)) x ys).length = ys.length + 1 := by
          intro x ys
          induction ys with
          | nil => rfl
          | cons y ys ih =>
            simp only [insS]
            split
            · simp [ih]
            · rfl
        show (insS _ a (sortC N)).length = _
        rw [il, ih]
        rfl
    rw [this]; omega
  have q1 := same_tab (L := sortC N) (m := m) h3 M (rs := .tup (((putR R r k).map (renR L N)).map rl)) (rs' := .key ((putR (R.map (renR L N)) (renR L N r) k).map rl)) (R := putR (R.map (renR L N)) (renR L N r) k) (by rw [pe]; rfl) rfl sl (by rw [put_len _ _ (by simpa using hk)]; simp; omega)
  have st4 : ∀ Q Z : D, exec P u (sAt (KB.b_law_through fm f1 f2 f3) 4) [some (tabD L rs m), some (rl r), some (.int k), some (.tup (N.map sg)), some (tabD L (.key ((putR R r k).map rl)) m), some Q, some Z, some (rl (renR L N r)), none, none, none] M = .nx [some (tabD L rs m), some (rl r), some (.int k), some (.tup (N.map sg)), some (tabD L (.key ((putR R r k).map rl)) m), some Q, some Z, some (rl (renR L N r)), none, none, none] M := fun Q Z => by
    simp only [sAt, KB.b_law_through]
    generalize (putR R r k).map rl = A1 at *
    generalize ((putR R r k).map (renR L N)).map rl = A2 at *
    generalize (R.map (renR L N)).map rl = A3 at *
    generalize (putR (R.map (renR L N)) (renR L N r) k).map rl = A4 at *
    simp [e2, e3, e4, q1]
  rw [hb, execs_cons, st0, F.seq_nx, execs_cons, st1, F.seq_nx, execs_cons, st2, F.seq_nx, execs_cons, st3, F.seq_nx, execs_cons, st4, F.seq_nx]
  by_cases mo : m = [111, 110, 99, 101]
  · simp only [execs_cons, sAt, KB.b_law_through]
    generalize (putR R r k).map rl = A1 at *
    simp [mo]
  · obtain ⟨m2, hm2⟩ := hw m t.man mo
    have l100 : ∀ x ∈ putR R r k, x.1.length ≤ 100 ∧ x.2.length ≤ 100 := fun x hx => by
      rcases put_mem.mp hx with rfl | hx
      · exact hr
      · exact t.len x hx
    have e5 := h1 L (.key ((putR R r k).map rl)) (putR R r k) m m2 M rfl (by unfold line; omega) (fun x hx => (rOkAll x hx).1) hm2
    have e6 := h1 L rs R m m2 M hR (by unfold line; omega) (fun x hx => rOk_of (t.len x hx)) hm2
    have oM : ruleOf L (mirR r) = true := ruleOf_low t.low (by simpa [mirR] using ri.2.1.2) (by simpa [mirR] using ri.1.2) (fun c hc => ri.2.2.2 c (by simpa [mirR] using hc)) (fun c hc => ri.2.2.1 c (by simpa [mirR] using hc))
    have nM : mirR r ∉ R.map mirR := fun q => by
      obtain ⟨x, hx, e⟩ := List.mem_map.mp q
      have a2 : x.2 = r.2 := List.reverse_inj.mp (congrArg Prod.fst e)
      have a1 : x.1 = r.1 := List.reverse_inj.mp (congrArg Prod.snd e)
      exact hn ((Prod.ext a1 a2 : x = r) ▸ hx)
    have e7 := h2.put L (.key ((R.map mirR).map rl)) (R.map mirR) m2 (mirR r) k M rfl (rOk_of (by simpa [mirR] using And.comm.mp hr)) (by simp; unfold line; omega) oM nM (by simpa using hk)
    have pm : (putR R r k).map mirR = putR (R.map mirR) (mirR r) k := by
      unfold putR
      simp [List.map_take, List.map_drop]
    have q2 := same_tab (L := L) (m := m2) h3 M (rs := .key (((putR R r k).map mirR).map rl)) (rs' := .key ((putR (R.map mirR) (mirR r) k).map rl)) (R := putR (R.map mirR) (mirR r) k) (by rw [pm]; rfl) rfl l26 (by rw [put_len _ _ (by simpa using hk)]; simp; omega)
    have b1 := back_s (x := r.1) M (by unfold line; omega)
    have b2 := back_s (x := r.2) M (by unfold line; omega)
    have em : (D.key [.str r.2.reverse, .str r.1.reverse]) = rl (mirR r) := rfl
    simp only [execs_cons, sAt, KB.b_law_through]
    generalize (putR R r k).map rl = A1 at *
    generalize ((putR R r k).map mirR).map rl = A2 at *
    generalize (R.map mirR).map rl = A3 at *
    generalize (putR (R.map mirR) (mirR r) k).map rl = A4 at *
    simp [mo, b1, b2, line]
    rw [em]
    simp [e5, e6, e7, q2]
end
end PL
end
section
set_option Elab.async false
set_option linter.all false
set_option maxRecDepth 100000
set_option autoImplicit false
set_option maxHeartbeats 4000000
/-! PL11: what is due; drawn tables and rules; drawn changes (law k11). -/
namespace PL
open DL
abbrev wGave : List Nat := [103, 97, 118, 101]
abbrev wNot : List Nat := [78, 111, 116, 85, 115, 97, 98, 108, 101]
abbrev noD (w : List Nat) : D := .key [.str wNot, .str w, .int (-1)]
section
variable {P : Fns} {u : Under}
def LawNo (S : List D → Store → R D) : Prop := ∀ (w : List Nat) (M : Store), S [.str w] M = .ok (noD w) M
theorem lawNo_run : LawNo (runF P u 1 1 KB.b_law_no) := fun w M => run1' (by simp [KB.b_law_no, startE, line]) rfl
structure LawPut (S : List D → Store → R D) : Prop where
  yes : ∀ (L : List Nat) (rs : D) (R : List Ru) (m : List Nat) (r : Ru) (k : Nat) (M : Store), asTup rs = some (R.map rl) → R.length ≤ 100 → (r.1.length ≤ 100 ∧ r.2.length ≤ 100) → (∀ c ∈ r.1 ++ r.2, c ∈ L) → r ∉ R → k ≤ R.length →
    ∃ rs', asTup rs' = some ((putR R r k).map rl) ∧ S [tabD L rs m, rl r, .int k] M = .ok (.key [.str wGave, tabD L rs' m]) M
  noR : ∀ (L : List Nat) (rs : D) (R : List Ru) (m : List Nat) (r : Ru) (k : Nat) (M : Store), asTup rs = some (R.map rl) → (r.1.length ≤ 100 ∧ r.2.length ≤ 100) → ¬ ((∀ c ∈ r.1 ++ r.2, c ∈ L) ∧ r ∉ R) → S [tabD L rs m, rl r, .int k] M = .ok (noD wRule) M
  noK : ∀ (L : List Nat) (rs : D) (R : List Ru) (m : List Nat) (r : Ru) (k : Nat) (M : Store), asTup rs = some (R.map rl) → (r.1.length ≤ 100 ∧ r.2.length ≤ 100) → (∀ c ∈ r.1 ++ r.2, c ∈ L) → r ∉ R → ¬ k ≤ R.length → S [tabD L rs m, rl r, .int k] M = .ok (noD wRank) M
theorem ne_nil_l (ds : List D) (M : Store) (h : (D.lst ds).okEq = true) : ev2 .ne (.lst ds) (.lst []) M = some (.bl (!ds.isEmpty)) := by
  show (eqD M (.lst ds) (.lst [])).map (fun k => D.bl (!k)) = _
  rw [eqD_of (rd_lst M ds) (rd_lst M []) h (ok_lst rfl (by simp [D.depths])), eqv_ll]
  cases ds with
  | nil => rw [eqvs_nil]; rfl
  | cons d ds => rw [eqvs_cn]; rfl
theorem lawPut_run {f : Nat} (h : LawNo (P.S f)) : LawPut (runF P u 1 7 (KB.b_law_put f)) := by
  have key : ∀ (L x : List Nat) (M : Store), x.length ≤ line → ∀ g : D → Store → R (Option D), (∀ c, g (.str [c]) M = .ok (if c ∈ L then none else some (sg c)) M) → comp none (letters x) g (letters x) [] M = .ok ((x.filter fun c => decide (c ∉ L)).map sg) M := fun L x M hx g hg => by
    rw [letters, comp_vals (g := none) sg (fun c => if c ∈ L then none else some (sg c)) trivial x (fun c _ => hg c) hx]
    congr 1
    induction x with
    | nil => rfl
    | cons a x ih =>
      rw [List.filterMap_cons, List.filter_cons]
      by_cases q : a ∈ L
      · simp [q]
        simpa using ih (by simp at hx; omega)
      · simp [q]
        simpa using ih (by simp at hx; omega)
  have ne : ∀ (L x : List Nat) (M : Store), ev2 .ne (.lst ((x.filter fun c => decide (c ∉ L)).map sg)) (.lst []) M = some (.bl (!decide (∀ c ∈ x, c ∈ L))) := fun L x M => by
    rw [ne_nil_l _ M (ok_lst (dats_plain _ (dats_sg _)) (by have := depths_sg (x.filter fun c => decide (c ∉ L)); omega))]
    congr 3
    rw [Bool.eq_iff_iff, decide_eq_true_eq]
    simp [List.filter_eq_nil_iff]
  have ad : ∀ (r : Ru) (M : Store), (r.1.length ≤ 100 ∧ r.2.length ≤ 100) → ev2 .add (.str r.1) (.str r.2) M = some (.str (r.1 ++ r.2)) ∧ (r.1 ++ r.2).length ≤ line := fun r M hr => ⟨add_ss M (by unfold line; omega), by simp; unfold line; omega⟩
  constructor
  · intro L rs R m r k M hR hl hr hc hn hk
    obtain ⟨d1, s1, a1⟩ := slice_ex hR none (some (k : Int)) M
    obtain ⟨d2, s2, a2⟩ := slice_ex hR (some (k : Int)) none M
    rw [cut_to] at a1
    rw [cut_from] at a2
    obtain ⟨d3, s3, a3⟩ := add_as (d := d1) (e := .key [rl r]) a1 rfl (by simp; unfold line; omega) M
    obtain ⟨d4, s4, a4⟩ := add_as a3 a2 (by simp; unfold line; omega) M
    have a4' : asTup d4 = some ((putR R r k).map rl) := by rw [a4]; simp [putR]
    refine ⟨d4, a4', run1' ?_ ?_⟩
    · obtain ⟨q1, q2⟩ := ad r M hr
      have e2 := ne L (r.1 ++ r.2) M
      rw [decide_eq_true hc] at e2
      have i1 := in_rl r R M hR
      rw [decide_eq_false hn] at i1
      have ng : ¬ (R.length : Int) < k := by omega
      have kk := key L (r.1 ++ r.2) M q2
      generalize hZ : ((r.1 ++ r.2).filter fun c => decide (c ∉ L)).map sg = Z at *
      generalize hX : r.1 ++ r.2 = X at *
      simp [KB.b_law_put, startE, q1, walked_str M q2]
      rw [kk _ (fun c => by by_cases q : c ∈ L <;> simp [q])]
      simp [e2, i1, len_as hR, ng, s1, s2, s3, s4, line]
    · have := bnd_tab (L := L) (m := m) (n := M.length) a4'
      simp [this]
  · intro L rs R m r k M hR hr ho
    refine run1' ?_ rfl
    obtain ⟨q1, q2⟩ := ad r M hr
    have e2 := ne L (r.1 ++ r.2) M
    have kk := key L (r.1 ++ r.2) M q2
    have i1 := in_rl r R M hR
    generalize hZ : ((r.1 ++ r.2).filter fun c => decide (c ∉ L)).map sg = Z at *
    generalize hX : r.1 ++ r.2 = X at *
    by_cases hc : ∀ c ∈ X, c ∈ L
    · rw [decide_eq_true hc] at e2
      have hn : r ∈ R := by
        by_cases q : r ∈ R
        · exact q
        · exact absurd ⟨hc, q⟩ ho
      rw [decide_eq_true hn] at i1
      simp [KB.b_law_put, startE, q1, walked_str M q2]
      rw [kk _ (fun c => by by_cases q : c ∈ L <;> simp [q])]
      simp [e2, i1, h wRule M]
    · rw [decide_eq_false hc] at e2
      simp [KB.b_law_put, startE, q1, walked_str M q2]
      rw [kk _ (fun c => by by_cases q : c ∈ L <;> simp [q])]
      simp [e2, h wRule M]
  · intro L rs R m r k M hR hr hc hn hk
    refine run1' ?_ rfl
    obtain ⟨q1, q2⟩ := ad r M hr
    have e2 := ne L (r.1 ++ r.2) M
    rw [decide_eq_true hc] at e2
    have i1 := in_rl r R M hR
    rw [decide_eq_false hn] at i1
    have ng : (R.length : Int) < k := by omega
    have kk := key L (r.1 ++ r.2) M q2
    generalize hZ : ((r.1 ++ r.2).filter fun c => decide (c ∉ L)).map sg = Z at *
    generalize hX : r.1 ++ r.2 = X at *
    simp [KB.b_law_put, startE, q1, walked_str M q2]
    rw [kk _ (fun c => by by_cases q : c ∈ L <;> simp [q])]
    simp [e2, i1, len_as hR, ng, h wRank M]
/-! ### drawn tables -/
def TripleOk (S : List D → Store → R D) : Prop := ∀ (n : Nat) (M : Store) (many most : Nat), FeedAt n M → Wf M → many ≤ 1000 → most ≤ 1000 → 1 ≤ most →
  ∃ L R m M', S [.ref n, .int many, .int most] M = .ok (tabD L (.tup (R.map rl)) m) M' ∧ (LetOk L ∧ Made L most many R ∧ m ∈ MAN) ∧ FS n M M'
theorem tripleOk_run {f1 f2 f3 : Nat} (h1 : RulesOk (P.S f1)) (h2 : LettersOk (P.S f2)) (h3 : PickOk (P.S f3)) : TripleOk (runF P u 2 5 (KB.b_law_triple f1 f2 f3)) := fun n M many most hf w q1 q2 q3 => by
  suffices q : ∃ d M', runF P u 2 5 (KB.b_law_triple f1 f2 f3) [.ref n, .int many, .int most] M = .ok d M' ∧ (∃ L R m, d = tabD L (.tup (R.map rl)) m ∧ LetOk L ∧ Made L most many R ∧ m ∈ MAN) ∧ FS n M M' by
    obtain ⟨d, M', e, ⟨L, R, m, rfl, hL⟩, fs⟩ := q
    exact ⟨L, R, m, M', e, hL, fs⟩
  have hn := hf.lt
  have nX : ∀ o ∈ ([] : Store), o.bnd (M.length + ([] : Store).length) = true := fun o h => by cases h
  obtain ⟨d, M1, e1, hd, fs1⟩ := h3 n M (.lst (MAN.map .str)) (MAN.map .str) hf w (.inr (.inl rfl)) (by simp) (by simp [line]) (by simp)
  obtain ⟨m, hm, rfl⟩ := List.mem_map.mp hd
  have s1 := FS.st hf fs1
  obtain ⟨L, M2, e2, hL, fs2⟩ := h2 n M1 (s1.feed hn) (s1.wf w nX)
  have s2 := s1.draw hn fs2
  obtain ⟨R, M3, e3, hR, fs3⟩ := h1 n M2 L many most (s2.feed hn) (s2.wf w nX) hL q1 q2 q3
  have s3 := s2.draw hn fs3
  refine run_stX w ⟨_, M3, [], ?_, s3, bnd_tab rfl, L, R, m, rfl, hL, hR, hm⟩
  have e1' : P.S f3 [.ref n, .lst [.str [114, 97, 110, 107, 101, 100], .str [114, 105, 103, 104, 116, 114, 97, 110, 107, 101, 100], .str [108, 101, 102, 116, 109, 111, 115, 116], .str [114, 105, 103, 104, 116, 109, 111, 115, 116], .str [111, 110, 99, 101]]] M = .ok (.str m) M1 := e1
  simp [KB.b_law_triple, startE, e1', e2, e3, line]
def NewRuleOk (S : List D → Store → R D) : Prop := ∀ (n : Nat) (M : Store) (L : List Nat) (rs : D) (R : List Ru) (m : List Nat), FeedAt n M → Wf M → asTup rs = some (R.map rl) → TabOk L R m →
  ∃ r M', S [.ref n, tabD L rs m] M = .ok (rl r) M' ∧ (r.1 ≠ [] ∧ r.2 ≠ [] ∧ r.1.length ≤ 100 ∧ r.2.length ≤ 100) ∧ FS n M M'
theorem newRuleOk_run {f1 f2 f3 : Nat} (h1 : PieceOk (P.S f1)) (h2 : PickOk (P.S f2)) (h3 : DrawOk (P.S f3)) : NewRuleOk (runF P u 2 6 (KB.b_law_new_rule f1 f2 f3)) := fun n M L rs R m hf w hR t => by
  suffices q : ∃ d M', runF P u 2 6 (KB.b_law_new_rule f1 f2 f3) [.ref n, tabD L rs m] M = .ok d M' ∧ (∃ r, d = rl r ∧ r.1 ≠ [] ∧ r.2 ≠ [] ∧ r.1.length ≤ 100 ∧ r.2.length ≤ 100) ∧ FS n M M' by
    obtain ⟨d, M', e, ⟨r, rfl, hr⟩, fs⟩ := q
    exact ⟨r, M', e, hr, fs⟩
  have hn := hf.lt
  have l26 := len26 t.asc t.low
  have nX : ∀ o ∈ ([] : Store), o.bnd (M.length + ([] : Store).length) = true := fun o h => by cases h
  obtain ⟨v, M1, e1, hv, fs1⟩ := h3 n M 5 hf w (by decide) (by decide)
  have s1 := FS.st hf fs1
  refine run_stX w ?_
  have piece : ∀ M', St n M [] M' → ∃ x M2, P.S f1 [.ref n, .tup (L.map sg), .int 4] M' = .ok (.str x) M2 ∧ (x ≠ [] ∧ x.length ≤ 4 ∧ ∀ c ∈ x, c ∈ L) ∧ St n M [] M2 := fun M' s => by
    obtain ⟨x, M2, e, hx, fs⟩ := h1 n M' L 4 (s.feed hn) (s.wf w nX) t.ne (by unfold line; omega) (by omega) (by omega)
    exact ⟨x, M2, e, hx, s.draw hn fs⟩
  have pieces : ∃ z1 z2 M3 M4, P.S f1 [.ref n, .tup (L.map sg), .int 4] M1 = .ok (.str z1) M3 ∧ P.S f1 [.ref n, .tup (L.map sg), .int 4] M3 = .ok (.str z2) M4 ∧ St n M [] M4 ∧ z1 ≠ [] ∧ z2 ≠ [] ∧ z1.length ≤ 100 ∧ z2.length ≤ 100 := by
    obtain ⟨z1, M3, e3, g3, s3⟩ := piece M1 s1
    obtain ⟨z2, M4, e4, g4, s4⟩ := piece M3 s3
    exact ⟨z1, z2, M3, M4, e3, e4, s4, g3.1, g4.1, by have := g3.2.1; omega, by have := g4.2.1; omega⟩
  by_cases c0 : v = 0
  · subst c0
    by_cases cR : R = []
    · obtain ⟨z1, z2, M3, M4, e3, e4, s4, q⟩ := pieces
      have z : (R.map rl).length = 0 := by simp [cR]
      refine ⟨_, M4, [], ?_, s4, ?_, (z1, z2), rfl, q⟩
      · simp [KB.b_law_new_rule, startE, e1, len_as hR, cR, e3, e4, line]
      · exact bnd_dat rfl
    · have pos : 0 < R.length := List.length_pos_iff.mpr cR
      obtain ⟨d, M2, e2, hd, fs2⟩ := h2 n M1 rs (R.map rl) (s1.feed hn) (s1.wf w nX) (.inl hR) (by simpa using cR) (by simp; have := t.many; unfold line; omega) (bnds_dats (dats_rl R))
      obtain ⟨r, hr, rfl⟩ := List.mem_map.mp hd
      have ri := ruleOf_iff.mp (t.ru r hr)
      refine ⟨rl r, M2, [], ?_, s1.draw hn fs2, bnd_dat rfl, r, rfl, ri.1.2, ri.2.1.2, t.len r hr⟩
      simp [KB.b_law_new_rule, startE, e1, len_as hR, pos, e2, line]
  · by_cases c1 : v = 1
    · subst c1
      obtain ⟨a, L', rfl⟩ : ∃ a L', L = a :: L' := by
        cases L with
        | nil => exact absurd rfl t.ne
        | cons a L' => exact ⟨a, L', rfl⟩
      have no65 : 65 ∉ a :: L' := fun q => by
        have := (low_iff 65).mp (t.low 65 q)
        omega
      obtain ⟨b, B', hB⟩ : ∃ b B', (LET ++ [65]).filter (fun c => decide (c ∉ a :: L')) = b :: B' := by
        cases e : (LET ++ [65]).filter (fun c => decide (c ∉ a :: L')) with
        | nil =>
          have : 65 ∈ (LET ++ [65]).filter (fun c => decide (c ∉ a :: L')) := List.mem_filter.mpr ⟨by simp, decide_eq_true no65⟩
          rw [e] at this; cases this
        | cons b B' => exact ⟨b, B', rfl⟩
      have key : ∀ g : D → Store → DL.R (Option D), (∀ c, g (.str [c]) M1 = .ok (if c ∈ a :: L' then none else some (sg c)) M1) → comp none (letters (LET ++ [65])) g (letters (LET ++ [65])) [] M1 = .ok (sg b :: B'.map sg) M1 := fun g hg => by
        rw [letters, comp_vals (g := none) sg (fun c => if c ∈ a :: L' then none else some (sg c)) trivial _ (fun c _ => hg c) (by simp [line])]
        have e : ∀ xs : List Nat, xs.filterMap (fun c => if c ∈ a :: L' then none else some (sg c)) = (xs.filter fun c => decide (c ∉ a :: L')).map sg := by
          intro xs
          induction xs with
          | nil => rfl
          | cons x xs ih =>
            rw [List.filterMap_cons, List.filter_cons, ih]
            by_cases q : x ∈ a :: L'
            · rw [if_pos q, if_neg (by simp only [decide_eq_true_eq]; exact fun z => z q)]
            · rw [if_neg q, if_pos (by simp only [decide_eq_true_eq]; exact q)]
              rfl
        rw [e, hB]
        rfl
      have wk : walked M1 (.str [97, 98, 99, 100, 101, 102, 103, 104, 105, 106, 107, 108, 109, 110, 111, 112, 113, 114, 115, 116, 117, 118, 119, 120, 121, 122, 65]) = some (letters (LET ++ [65]), none) := walked_str M1 (by simp [line])
      rw [show LET ++ [65] = [97, 98, 99, 100, 101, 102, 103, 104, 105, 106, 107, 108, 109, 110, 111, 112, 113, 114, 115, 116, 117, 118, 119, 120, 121, 122, 65] from rfl] at key wk
      have inn : ∀ c, ev2 .notin (.str [c]) (.tup ((a :: L').map sg)) M1 = some (.bl (!decide (c ∈ a :: L'))) := fun c => nin_sg c (a :: L') M1
      have ix0 : ∀ M, ev2 .ix (.tup ((a :: L').map sg)) (.int 0) M = some (sg a) := fun M => by rw [ix_tup, List.map_cons, nth0]
      refine ⟨_, M1, [], ?_, s1, bnd_dat rfl, ([a], [b]), rfl, by simp, by simp, by simp, by simp⟩
      have tb : ∀ X : D, tabD (a :: L') rs m = .key [.tup ((a :: L').map sg), rs, .str m] := fun _ => rfl
      generalize (a :: L') = LL at *
      simp [KB.b_law_new_rule, startE, e1, wk, -ix_tup, ix0, line]
      rw [key _ (fun c => by simp only [inn]; by_cases q : c ∈ LL <;> simp [q])]
      simp [line]
    · have c0' : ¬ (v : Int) = 0 := by omega
      have c1' : ¬ (v : Int) = 1 := by omega
      obtain ⟨z1, z2, M3, M4, e3, e4, s4, q⟩ := pieces
      refine ⟨_, M4, [], ?_, s4, bnd_dat rfl, (z1, z2), rfl, q⟩
      simp [KB.b_law_new_rule, startE, e1, c0, c1, c0', c1', e3, e4, line]
end
end PL
end
section
set_option Elab.async false
set_option linter.all false
set_option maxRecDepth 100000
set_option autoImplicit false
set_option maxHeartbeats 4000000
/-! PL12: a drawn change (law k11). -/
namespace PL
open DL
theorem heard_ok {c : Nat} {g l : List Nat} {th : Store → R D} {M M' : Store} {d : D} (h : th M = .ok d M') : heard c g l th M = .ok (.tup [.str g, d]) M' := by
  unfold heard
  rw [h]
theorem heard_ex {c : Nat} {g l : List Nat} {th : Store → R D} {M M' : Store} {a b : D} (h : th M = .ex c [a, b] M') : heard c g l th M = .ok (.tup [.str l, a, b]) M' := by
  unfold heard
  rw [h]
  simp
/-- what the program gave, what is due -/
def Told (k : Nat) (told due : D) : Prop := (∃ (L : List Nat) (rs1 rs2 : D) (R : List Ru) (m : List Nat), told = .tup [.str wGave, tabD L rs1 m] ∧ due = .key [.str wGave, tabD L rs2 m] ∧ asTup rs1 = some (R.map rl) ∧ asTup rs2 = some (R.map rl) ∧ TabOk L R m ∧ R.length ≤ k) ∨
  ∃ w, told = .tup [.str wNot, .str w, .int (-1)] ∧ due = noD w
theorem Told.same {k : Nat} {told due : D} (h : Told k told due) {S : List D → Store → R D} (hs : SameTo 10 S) (M : Store) : S [told, due] M = .ok (.bl true) M := by
  rcases h with ⟨L, rs1, rs2, R, m, rfl, rfl, h1, h2, t, hk⟩ | ⟨w, rfl, rfl⟩
  · have l26 := len26 t.asc t.low
    have lR := t.many
    refine hs _ _ M ?_ ?_ ?_ ?_ ?_
    · simp [dat_as h1, dats_rl, dats_sg]
    · simp [dat_as h2, dats_rl, dats_sg]
    · rw [D.toP, D.toP, toPs_map, toPs_map]
      simp only [List.map_cons, List.map_nil, toP_tab (L := L) (m := m) h1 h2]
    · rw [depth_key]
      have : D.depths [.str wGave, tabD L rs2 m] ≤ 3 := depths_le _ fun d hd => by
        simp only [List.mem_cons, List.not_mem_nil, or_false] at hd
        rcases hd with rfl | rfl
        · simp [D.depth]
        · exact depth_tab h2
      omega
    · rw [wide_key]
      have := wide_tab (L := L) (m := m) h2 (by unfold line; omega) (by unfold line; omega)
      simp [this]
      unfold line; omega
  · refine hs _ _ M rfl rfl ?_ ?_ ?_
    · rw [D.toP, D.toP]
    · rw [depth_key]; simp [D.depths, D.depth]
    · rw [wide_key]; simp [line]
theorem Told.bnd {k n : Nat} {told due : D} (h : Told k told due) : (D.key [told, due]).bnd n = true := by
  rcases h with ⟨L, rs1, rs2, R, m, rfl, rfl, h1, h2, t, hk⟩ | ⟨w, rfl, rfl⟩
  · have b1 := bnd_tab (L := L) (m := m) (n := n) h1
    have b2 := bnd_tab (L := L) (m := m) (n := n) h2
    simp [b1, b2]
  · rfl
/-! ### tables that come of it -/
section
variable {L : List Nat} {R : List Ru} {m : List Nat}
theorem TabOk.sub (t : TabOk L R m) {Q : List Ru} (h1 : Q.Nodup) (h2 : ∀ r ∈ Q, r ∈ R) (h3 : Q.length ≤ R.length) : TabOk L Q m :=
  ⟨t.ne, t.low, t.asc, h1, fun r hr => t.ru r (h2 r hr), fun r hr => t.len r (h2 r hr), by have := t.many; omega, t.man⟩
theorem TabOk.put (t : TabOk L R m) {r : Ru} {k : Nat} (h : ruleOf L r = true) (hn : r ∉ R) (hl : r.1.length ≤ 100 ∧ r.2.length ≤ 100) (hk : k ≤ R.length) (hm : R.length < 100) : TabOk L (putR R r k) m :=
  ⟨t.ne, t.low, t.asc, put_nodup t.nd hn, fun x hx => (put_mem.mp hx).elim (fun e => e ▸ h) (t.ru x), fun x hx => (put_mem.mp hx).elim (fun e => e ▸ hl) (t.len x), by rw [put_len R r hk]; omega, t.man⟩
theorem TabOk.without (t : TabOk L R m) {k : Nat} (hk : k < R.length) : TabOk L (without R k) m := t.sub (without_nodup t.nd hk).1 (fun _ h => without_mem h) (by rw [without_len hk]; omega)
theorem swap_perm {k : Nat} (hk : k + 1 < R.length) : (swapR R k).Perm R := by
  have h1 := put_without (R := R) (k := k) (by omega)
  have h2 : swapR R k = putR (PL.without R k) R[k] (k + 1) := by
    have := swap_put (W := PL.without R k) (r := R[k]) (j := k) (by rw [without_len (by omega)]; omega)
    rw [h1] at this
    exact this
  rw [h2]
  refine (put_perm _ _ _).trans ?_
  have := put_perm (PL.without R k) R[k] k
  rw [h1] at this
  exact this.symm
theorem TabOk.swap (t : TabOk L R m) {k : Nat} (hk : k + 1 < R.length) : TabOk L (swapR R k) m := t.sub ((swap_perm hk).nodup_iff.mpr t.nd) (fun _ h => (swap_perm hk).mem_iff.mp h) (Nat.le_of_eq (swap_perm hk).length_eq)
theorem TabOk.first (t : TabOk L R m) (k : Nat) : TabOk L (R.take k) m := t.sub (t.nd.sublist (List.take_sublist k R)) (fun _ h => List.mem_of_mem_take h) (by simp; omega)
theorem TabOk.manner (t : TabOk L R m) {w : List Nat} (h : w ∈ MAN) : TabOk L R w := ⟨t.ne, t.low, t.asc, t.nd, t.ru, t.len, t.many, h⟩
theorem TabOk.letters (t : TabOk L R m) {L2 : List Nat} (h1 : L2 ≠ []) (h2 : ∀ c ∈ L2, PL.low c = true) (h3 : PL.asc L2 = true) (h : ∀ c ∈ L, c ∈ L2) : TabOk L2 R m :=
  ⟨h1, h2, h3, t.nd, fun r hr => by
    have q := ruleOf_iff.mp (t.ru r hr)
    exact ruleOf_iff.mpr ⟨q.1, q.2.1, fun c hc => h c (q.2.2.1 c hc), fun c hc => h c (q.2.2.2 c hc)⟩, t.len, t.many, t.man⟩
end
section
variable {P : Fns} {u : Under}
def Changed (S : List D → Store → R D) : Prop := ∀ (n : Nat) (M : Store) (L : List Nat) (rs : D) (R : List Ru) (m : List Nat), FeedAt n M → Wf M → asTup rs = some (R.map rl) → TabOk L R m → R.length ≤ 50 →
  ∃ told due M', S [.ref n, tabD L rs m] M = .ok (.key [told, due]) M' ∧ Told (R.length + 1) told due ∧ FS n M M'
theorem changed_run {f1 f2 f3 f4 f5 f6 f7 f8 f9 f10 f11 f12 c : Nat} (h1 : FirstRules c (P.S f1)) (hT : P.T f2 = heard c wGave wNot) (h3 : LawNo (P.S f3)) (h4 : WithLetters c (P.S f4)) (h5 : DrawOk (P.S f5)) (h6 : PickOk (P.S f6)) (h7 : WithManner c (P.S f7)) (h8 : Exchanged c (P.S f8)) (h9 : WithoutRule c (P.S f9)) (h10 : LawPut (P.S f10)) (h11 : WithRule c (P.S f11)) (h12 : NewRuleOk (P.S f12)) :
    Changed (runF P u 2 11 (KB.b_law_changed f1 f2 f3 f4 f5 f6 f7 f8 f9 f10 f11 f12)) := fun n M L rs R m hf w hR t h50 => by
  suffices q : ∃ d M', runF P u 2 11 (KB.b_law_changed f1 f2 f3 f4 f5 f6 f7 f8 f9 f10 f11 f12) [.ref n, tabD L rs m] M = .ok d M' ∧ (∃ told due, d = .key [told, due] ∧ Told (R.length + 1) told due) ∧ FS n M M' by
    obtain ⟨d, M', e, ⟨told, due, rfl, ht⟩, fs⟩ := q
    exact ⟨told, due, M', e, ht, fs⟩
  have hn := hf.lt
  have l26 := len26 t.asc t.low
  have lR := t.many
  have hln : R.length < line := by unfold line; omega
  have nX : ∀ o ∈ ([] : Store), o.bnd (M.length + ([] : Store).length) = true := fun o h => by cases h
  obtain ⟨v, M1, e1, hv, fs1⟩ := h5 n M 7 hf w (by decide) (by decide)
  have s1 := FS.st hf fs1
  obtain ⟨k, M2, e2, hk, fs2⟩ := h5 n M1 (R.length + 2) (s1.feed hn) (s1.wf w nX) (by omega) (by omega)
  have s2 := s1.draw hn fs2
  have w2 := s2.wf w nX
  have f2' := s2.feed hn
  refine run_stX w ?_
  have fin : ∀ (told due : D) (M' : Store), (execs P u (KB.b_law_changed f1 f2 f3 f4 f5 f6 f7 f8 f9 f10 f11 f12) (startE 11 [.ref n, tabD L rs m]) M).toR = .ok (.key [told, due]) M' → St n M [] M' → Told (R.length + 1) told due →
      ∃ d M' X, (execs P u (KB.b_law_changed f1 f2 f3 f4 f5 f6 f7 f8 f9 f10 f11 f12) (startE 11 [.ref n, tabD L rs m]) M).toR = .ok d M' ∧ St n M X M' ∧ d.bnd M.length = true ∧ ∃ told due, d = .key [told, due] ∧ Told (R.length + 1) told due := fun told due M' e s ht => ⟨_, M', [], e, s, ht.bnd, told, due, rfl, ht⟩
  have tr : ∀ w : List Nat, Told (R.length + 1) (.tup [.str wNot, .str w, .int (-1)]) (noD w) := fun w => .inr ⟨w, rfl, rfl⟩
  by_cases c2 : v < 2
  · -- a rule more
    obtain ⟨r, M3, e3, hr, fs3⟩ := h12 n M2 L rs R m f2' w2 hR t
    have s3 := s2.draw hn fs3
    have hr2 : r.1.length ≤ 100 ∧ r.2.length ≤ 100 := hr.2.2
    have c2' : (v : Int) < 2 := by omega
    have iff1 : ruleOf L r = true ↔ ∀ c ∈ r.1 ++ r.2, c ∈ L := by
      constructor
      · intro h c hc
        have q := ruleOf_iff.mp h
        exact (List.mem_append.mp hc).elim (q.2.2.1 c) (q.2.2.2 c)
      · intro h
        exact ruleOf_low t.low hr.1 hr.2.1 (fun c hc => h c (List.mem_append_left _ hc)) (fun c hc => h c (List.mem_append_right _ hc))
    by_cases ok : (∀ c ∈ r.1 ++ r.2, c ∈ L) ∧ r ∉ R
    · by_cases kk : k ≤ R.length
      · have e4 := h11.put L rs R m r k M3 hR (rOk_of hr2) hln (iff1.mpr ok.1) ok.2 kk
        obtain ⟨rs', a5, e5⟩ := h10.yes L rs R m r k M3 hR (by omega) hr2 ok.1 ok.2 kk
        refine fin _ _ M3 ?_ s3 (.inl ⟨L, .key ((putR R r k).map rl), rs', putR R r k, m, rfl, rfl, rfl, a5, t.put (iff1.mpr ok.1) ok.2 hr2 kk (by omega), by rw [put_len R r kk]; omega⟩)
        generalize (putR R r k).map rl = A at *
        simp [KB.b_law_changed, startE, e1, e2, e3, c2, c2', len_as hR, hT, heard, e4, e5, line]
      · have e4 := h11.noK L rs R m r k M3 hR (rOk_of hr2) (iff1.mpr ok.1) ok.2 kk
        have e5 := h10.noK L rs R m r k M3 hR hr2 ok.1 ok.2 kk
        refine fin _ _ M3 ?_ s3 (tr wRank)
        simp [KB.b_law_changed, startE, e1, e2, e3, c2, c2', len_as hR, hT, heard, e4, e5, bad, line]
    · have e4 := h11.noR L rs R m r k M3 hR (rOk_of hr2) (fun q => ok ⟨iff1.mp q.1, q.2⟩)
      have e5 := h10.noR L rs R m r k M3 hR hr2 ok
      refine fin _ _ M3 ?_ s3 (tr wRule)
      simp [KB.b_law_changed, startE, e1, e2, e3, c2, c2', len_as hR, hT, heard, e4, e5, bad, line]
  have c2' : ¬ (v : Int) < 2 := by omega
  by_cases c3 : v = 2
  · subst c3
    obtain ⟨d1, q1, a1⟩ := slice_ex hR none (some (k : Int)) M2
    obtain ⟨d2, q2, a2⟩ := slice_ex hR (some ((k + 1 : Nat) : Int)) none M2
    rw [cut_to] at a1
    rw [cut_from] at a2
    obtain ⟨d3, q3, a3⟩ := add_as a1 a2 (by simp; unfold line; omega) M2
    have a3 : asTup d3 = some ((without R k).map rl) := by rw [a3]; simp [without]
    by_cases kk : k < R.length
    · have e4 := h9.out L rs R m k M2 hR hln kk
      refine fin _ _ M2 ?_ s2 (.inl ⟨L, .key ((without R k).map rl), d3, without R k, m, rfl, rfl, rfl, a3, t.without kk, by rw [without_len kk]; omega⟩)
      generalize (without R k).map rl = A at *
      have q2 : sliceI rs (some ((k : Int) + 1)) none M2 = some d2 := q2
      simp [KB.b_law_changed, startE, e1, e2, len_as hR, hT, heard, e4, h3 wRank _, kk, q1, q2, q3, line]
    · have e4 := h9.no L rs R m k M2 hR kk
      refine fin _ _ M2 ?_ s2 (tr wRank)
      simp [KB.b_law_changed, startE, e1, e2, len_as hR, hT, heard, e4, h3 wRank _, kk, bad, line]
  have c3' : ¬ (v : Int) = 2 := by omega
  by_cases c4 : v = 3
  · subst c4
    obtain ⟨d1, q1, a1⟩ := slice_ex hR none (some (k : Int)) M2
    obtain ⟨d2, q2, a2⟩ := slice_ex hR (some ((k + 1 : Nat) : Int)) (some ((k + 2 : Nat) : Int)) M2
    obtain ⟨d3, q3, a3⟩ := slice_ex hR (some ((k : Nat) : Int)) (some ((k + 1 : Nat) : Int)) M2
    obtain ⟨d4, q4, a4⟩ := slice_ex hR (some ((k + 2 : Nat) : Int)) none M2
    rw [cut_to] at a1
    rw [cut_mid, show k + 2 - (k + 1) = 1 by omega] at a2
    rw [cut_mid, show k + 1 - k = 1 by omega] at a3
    rw [cut_from] at a4
    obtain ⟨d5, q5, a5⟩ := add_as a1 a2 (by simp; unfold line; omega) M2
    obtain ⟨d6, q6, a6⟩ := add_as a5 a3 (by simp; unfold line; omega) M2
    obtain ⟨d7, q7, a7⟩ := add_as a6 a4 (by simp; unfold line; omega) M2
    have a7 : asTup d7 = some ((swapR R k).map rl) := by rw [a7]; simp [swapR, List.map_take, List.map_drop]
    have q2 : sliceI rs (some ((k : Int) + 1)) (some ((k : Int) + 2)) M2 = some d2 := q2
    have q3 : sliceI rs (some (k : Int)) (some ((k : Int) + 1)) M2 = some d3 := q3
    have q4 : sliceI rs (some ((k : Int) + 2)) none M2 = some d4 := q4
    by_cases kk : k + 1 < R.length
    · have e4 := h8.sw L rs R m k M2 hR hln kk
      have kk' : (k : Int) + 1 < R.length := by omega
      refine fin _ _ M2 ?_ s2 (.inl ⟨L, .tup ((swapR R k).map rl), d7, swapR R k, m, rfl, rfl, rfl, a7, t.swap kk, by rw [swapR_len kk]; omega⟩)
      generalize (swapR R k).map rl = A at *
      simp [KB.b_law_changed, startE, e1, e2, len_as hR, hT, heard, e4, h3 wRank _, kk', q1, q2, q3, q4, q5, q6, q7, line]
    · have e4 := h8.no L rs R m k M2 hR kk
      have kk' : ¬ (k : Int) + 1 < R.length := by omega
      refine fin _ _ M2 ?_ s2 (tr wRank)
      simp [KB.b_law_changed, startE, e1, e2, len_as hR, hT, heard, e4, h3 wRank _, kk', q1, q2, q3, q4, q5, q6, q7, bad, line]
  have c4' : ¬ (v : Int) = 3 := by omega
  by_cases c5 : v = 4
  · subst c5
    obtain ⟨d, M3, e3, hd, fs3⟩ := h6 n M2 (.lst ((MAN ++ [[116, 119, 105, 99, 101]]).map .str)) ((MAN ++ [[116, 119, 105, 99, 101]]).map .str) f2' w2 (.inr (.inl rfl)) (by simp) (by simp [line]) (by simp)
    obtain ⟨x, hx, rfl⟩ := List.mem_map.mp hd
    have s3 := s2.draw hn fs3
    have e3' : P.S f6 [.ref n, .lst [.str [114, 97, 110, 107, 101, 100], .str [114, 105, 103, 104, 116, 114, 97, 110, 107, 101, 100], .str [108, 101, 102, 116, 109, 111, 115, 116], .str [114, 105, 103, 104, 116, 109, 111, 115, 116], .str [111, 110, 99, 101], .str [116, 119, 105, 99, 101]]] M2 = .ok (.str x) M3 := e3
    by_cases tw : x = [116, 119, 105, 99, 101]
    · have e4 := h7.no L rs m x R M3 hR (by rw [tw]; decide)
      refine fin _ _ M3 ?_ s3 (tr wManner)
      subst tw
      simp [KB.b_law_changed, startE, e1, e2, len_as hR, hT, heard, e3', e4, h3 wManner _, bad, line]
    · have xm : x ∈ MAN := by
        rcases List.mem_append.mp hx with q | q
        · exact q
        · exact absurd (List.mem_singleton.mp q) tw
      have e4 := h7.yes L rs m x R M3 hR xm
      refine fin _ _ M3 ?_ s3 (.inl ⟨L, rs, rs, R, x, rfl, rfl, hR, hR, t.manner xm, by omega⟩)
      simp [KB.b_law_changed, startE, e1, e2, len_as hR, hT, heard, e3', e4, tw, line]
  have c5' : ¬ (v : Int) = 4 := by omega
  by_cases c6 : v = 5
  · subst c6
    obtain ⟨d, M3, e3, hd, fs3⟩ := h6 n M2 (.str LET) (letters LET) f2' w2 (.inr (.inr (.inl ⟨LET, rfl, rfl, by simp [line]⟩))) (by simp [letters]) (by simp [letters, line]) (bnds_dats (dats_sg LET))
    obtain ⟨a, ha, rfl⟩ := List.mem_map.mp hd
    have s3 := s2.draw hn fs3
    have lowA : ∀ c ∈ L ++ [a], low c = true := fun c hc => (List.mem_append.mp hc).elim (t.low c) fun q => by
      rw [List.mem_singleton.mp q]
      unfold low
      exact decide_eq_true ha
    obtain ⟨d0, M4, e4, hd0, fs4⟩ := h5 n M3 3 (s3.feed hn) (s3.wf w nX) (by decide) (by decide)
    have s4 := s3.draw hn fs4
    have ss := sortedSet_sg (xs := L ++ [a]) M3 (by simp; omega)
    have lal : ev2 .add (.lst (L.map sg)) (.lst [.str [a]]) M3 = some (.lst ((L ++ [a]).map sg)) := by
      rw [add_ll M3 (by simp; unfold line; omega)]
      simp
    obtain ⟨L2, e7, hL2, aL2⟩ : ∃ L2 : List Nat, ev P (.ife (.o2 .gt (.call f5 (idPm 2) (.cons (.v 0) (.cons (.c (.int 3)) .nil)) .nil) (.c (.int 0))) (.v 9) (.sl true false (.v 9) (.c (.int 1)) (.c .non))) [some (.ref n), some (tabD L rs m), some (.tup (L.map sg)), some rs, some (.str m), some (.int 5), some (.int k), none, none, some (.tup ((setC (L ++ [a])).map sg)), some (.str [a])] M3 = .ok (.tup (L2.map sg)) M4 ∧
        (∀ c ∈ L2, low c = true) ∧ asc L2 = true := by
      by_cases z : d0 = 0
      · subst z
        refine ⟨(setC (L ++ [a])).drop 1, ?_, fun c hc => lowA c ((setC_mem c _).mp (List.mem_of_mem_drop hc)), pw_asc ((asc_pw (setC_asc _)).sublist (List.drop_sublist 1 _))⟩
        have sl := slice_tup ((setC (L ++ [a])).map sg) (some ((1 : Nat) : Int)) none M4
        rw [cut_from, ← List.map_drop] at sl
        have sl : sliceI (.tup ((setC (L ++ [a])).map sg)) (some 1) none M4 = some (.tup (((setC (L ++ [a])).drop 1).map sg)) := sl
        generalize ((setC (L ++ [a])).drop 1).map sg = Z1 at *
        generalize (setC (L ++ [a])).map sg = Z2 at *
        simp [e4, sl]
      · have pos : (0 : Int) < d0 := by omega
        have pos' : 0 < d0 := by omega
        refine ⟨setC (L ++ [a]), ?_, fun c hc => lowA c ((setC_mem c _).mp hc), setC_asc _⟩
        generalize (setC (L ++ [a])).map sg = Z2 at *
        simp [e4, pos, pos']
    have l2 := len26 aL2 hL2
    have kk : ∀ g : D → Store → DL.R (Option D), (∀ c, g (.str [c]) M4 = .ok (if c ∈ L2 then none else some (sg c)) M4) → comp none (L.map sg) g (L.map sg) [] M4 = .ok ((L.filter fun c => decide (c ∉ L2)).map sg) M4 := fun g hg => by
      rw [comp_vals (g := none) sg (fun c => if c ∈ L2 then none else some (sg c)) trivial L (fun c _ => hg c) (by unfold line; omega)]
      congr 1
      generalize L = x
      induction x with
      | nil => rfl
      | cons a x ih =>
        rw [List.filterMap_cons, List.filter_cons, ih]
        by_cases q : a ∈ L2
        · rw [if_pos q, if_neg (by simp only [decide_eq_true_eq]; exact fun z => z q)]
        · rw [if_neg q, if_pos (by simp only [decide_eq_true_eq]; exact q)]
          rfl
    have en : ev2 .ne (.lst ((L.filter fun c => decide (c ∉ L2)).map sg)) (.lst []) M4 = some (.bl (!decide (∀ c ∈ L, c ∈ L2))) := by
      rw [ne_nil_l _ M4 (ok_lst (dats_plain _ (dats_sg _)) (by have := depths_sg (L.filter fun c => decide (c ∉ L2)); omega))]
      congr 3
      rw [Bool.eq_iff_iff, decide_eq_true_eq]
      simp [List.filter_eq_nil_iff]
    have sub_iff : subL L L2 = true ↔ ∀ c ∈ L, c ∈ L2 := by
      unfold subL
      simp
    have e3' : P.S f6 [.ref n, .str LET] M2 = .ok (.str [a]) M3 := e3
    have hlen2 : (L2.map sg).length = L2.length := by simp
    simp only [List.map_append, List.map_cons, List.map_nil] at ss lal
    have tl : ∀ M : Store, ev1 .list (.tup (L.map sg)) M = some (.lst (L.map sg)) := fun _ => rfl
    by_cases ok : L2 ≠ [] ∧ ∀ c ∈ L, c ∈ L2
    · have e8 := h4.yes L L2 rs m R M4 hR (by unfold line; omega) (by unfold line; omega) hL2 ok.1 aL2 (sub_iff.mpr ok.2)
      have z0 : ¬ L2.length = 0 := fun q => ok.1 (List.eq_nil_of_length_eq_zero q)
      rw [decide_eq_true ok.2] at en
      refine fin _ _ M4 ?_ s4 (.inl ⟨L2, rs, rs, R, m, rfl, rfl, hR, hR, t.letters ok.1 hL2 aL2 ok.2, by omega⟩)
      generalize hF : (L.filter fun c => decide (c ∉ L2)).map sg = Fl at *
      simp [KB.b_law_changed, startE, e1, e2, len_as hR, hT, heard, e3', tl, lal, ss, -ev_ife, e7, hlen2, z0, h3 wLetters _, line]
      rw [kk _ (fun c => by by_cases q : c ∈ L2 <;> simp [q])]
      simp [en, hT, heard, e8]
    · have e8 := h4.no L L2 rs m R M4 hR (by unfold line; omega) (by unfold line; omega) hL2 aL2 (fun q => ok ⟨q.1, sub_iff.mp q.2⟩)
      refine fin _ _ M4 ?_ s4 (tr wLetters)
      by_cases z0 : L2.length = 0
      · have z1 : L2 = [] := List.eq_nil_of_length_eq_zero z0
        subst z1
        simp only [List.map_nil] at e7 e8
        simp [KB.b_law_changed, startE, e1, e2, len_as hR, hT, heard, e3', tl, lal, ss, -ev_ife, e7, e8, h3 wLetters _, bad, line]
      · have nall : ¬ ∀ c ∈ L, c ∈ L2 := fun q => ok ⟨fun z => z0 (by simp [z]), q⟩
        rw [decide_eq_false nall] at en
        generalize hF : (L.filter fun c => decide (c ∉ L2)).map sg = Fl at *
        simp [KB.b_law_changed, startE, e1, e2, len_as hR, hT, heard, e3', tl, lal, ss, -ev_ife, e7, hlen2, z0, h3 wLetters _, bad, line]
        rw [kk _ (fun c => by by_cases q : c ∈ L2 <;> simp [q])]
        simp [en, hT, heard, e8, bad]
  have c6' : ¬ (v : Int) = 5 := by omega
  by_cases kk : k ≤ R.length
  · obtain ⟨rs1, a1, e4⟩ := h1.yes L rs R m k M2 hR kk
    obtain ⟨d1, q1, b1⟩ := slice_ex hR none (some (k : Int)) M2
    rw [cut_to] at b1
    have b1 : asTup d1 = some ((R.take k).map rl) := by rw [b1]; simp
    refine fin _ _ M2 ?_ s2 (.inl ⟨L, rs1, d1, R.take k, m, rfl, rfl, a1, b1, t.first k, by simp; omega⟩)
    simp [KB.b_law_changed, startE, e1, e2, len_as hR, hT, heard, c2, c2', c3, c3', c4, c4', c5, c5', c6, c6', h3 wN _, kk, q1, e4, line]
  · have e4 := h1.no L rs R m k M2 hR kk
    refine fin _ _ M2 ?_ s2 (tr wN)
    simp [KB.b_law_changed, startE, e1, e2, len_as hR, hT, heard, c2, c2', c3, c3', c4, c4', c5, c5', c6, c6', h3 wN _, kk, e4, bad, line]
end
end PL
end
section
set_option Elab.async false
set_option linter.all false
set_option maxRecDepth 100000
set_option autoImplicit false
set_option maxHeartbeats 4000000
/-! PL13: there and back; the law (law k11). -/
namespace PL
open DL
section
variable {P : Fns} {u : Under}
def FeedOk (S : List D → Store → R D) : Prop := ∀ ns : List Int, ns.length ≤ 63 → ∃ cs, S [.scr ns] [] = .ok (.ref 0) [fdO cs 0 0 0]
theorem feedOk_run : FeedOk (runF P u 0 2 KB.b_law_feed) := fun ns h => by
  refine ⟨cut ns none (some 63), ?_⟩
  unfold runF
  rw [settle0]
  have sl : sliceI (.scr ns) none (some 63) [] = some (.lst ((cut ns none (some 63)).map .int)) := rfl
  have lc : (cut ns none (some 63)).length ≤ 63 := by
    have e := cut_to (xs := ns) 63
    rw [show ((63 : Nat) : Int) = 63 from rfl] at e
    rw [e]; simp; omega
  generalize cut ns none (some 63) = cs at *
  have cp : ∀ g : D → Store → DL.R (Option D), (∀ c : Int, g (.int c) [] = .ok (some (.int c)) []) → comp none (cs.map .int) g (cs.map .int) [] [] = .ok (cs.map .int) [] := fun g hg => by
    rw [comp_vals (g := none) (fun c => D.int c) (fun c => some (D.int c)) trivial cs (fun c _ => hg c) (by unfold line; omega)]
    simp
  simp [KB.b_law_feed, startE, sl]
  rw [cp _ (fun c => by simp)]
  simp [pairUp, fdO, putKv, putOk, eqv_str, isKey, line]
def BackOk (S : List D → Store → R D) : Prop := ∀ (n : Nat) (M : Store) (L : List Nat) (rs : D) (R : List Ru) (m : List Nat), FeedAt n M → Wf M → asTup rs = some (R.map rl) → TabOk L R m → R.length ≤ 50 →
  ∃ M', S [.ref n, tabD L rs m] M = .ok (.bl true) M' ∧ FS n M M'
theorem nodup_asc {L : List Nat} (h : asc L = true) : L.Nodup := (asc_pw h).imp fun {a b} h => by omega
theorem backOk_run {f1 f2 f3 f4 f5 f6 f7 f8 f9 f10 f11 f12 c : Nat} (h1 : DrawOk (P.S f1)) (h2 : Undone (P.S f2)) (h3 : LawPut (P.S f3)) (h4 : Through (P.S f4)) (h5 : WithRule c (P.S f5)) (h6 : WithoutRule c (P.S f6)) (h7 : SameTo 10 (P.S f7)) (h8 : NewRuleOk (P.S f8)) (h9 : WithManner c (P.S f9)) (h10 : PickOk (P.S f10)) (h11 : LetsTable (P.S f11)) (h12 : Filled (P.S f12)) :
    BackOk (runF P u 2 6 (KB.b_law_back f1 f2 f3 f4 f5 f6 f7 f8 f9 f10 f11 f12)) := fun n M L rs R m hf w hR t h50 => by
  suffices q : ∃ d M', runF P u 2 6 (KB.b_law_back f1 f2 f3 f4 f5 f6 f7 f8 f9 f10 f11 f12) [.ref n, tabD L rs m] M = .ok d M' ∧ d = .bl true ∧ FS n M M' by
    obtain ⟨d, M', e, rfl, fs⟩ := q
    exact ⟨M', e, fs⟩
  have hn := hf.lt
  have l26 := len26 t.asc t.low
  have lR := t.many
  have hln : R.length < line := by unfold line; omega
  have nX : ∀ o ∈ ([] : Store), o.bnd (M.length + ([] : Store).length) = true := fun o h => by cases h
  obtain ⟨k1, M1, e1, hk1, fs1⟩ := h1 n M (R.length + 1) hf w (by omega) (by omega)
  have s1 := FS.st hf fs1
  obtain ⟨d, M2, e2, hd, fs2⟩ := h10 n M1 (.lst [.str [114, 97, 110, 107, 101, 100], .str [111, 110, 99, 101], .str [108, 101, 102, 116, 109, 111, 115, 116]]) [.str [114, 97, 110, 107, 101, 100], .str [111, 110, 99, 101], .str [108, 101, 102, 116, 109, 111, 115, 116]] (s1.feed hn) (s1.wf w nX) (.inr (.inl rfl)) (by simp) (by simp [line]) (by simp)
  obtain ⟨x, rfl, xm⟩ : ∃ x, d = .str x ∧ x ∈ MAN := by
    simp only [List.mem_cons, List.not_mem_nil, or_false] at hd
    rcases hd with rfl | rfl | rfl
    · exact ⟨_, rfl, by decide⟩
    · exact ⟨_, rfl, by decide⟩
    · exact ⟨_, rfl, by decide⟩
  have s2 := s1.draw hn fs2
  have e3 := h9.yes L rs m x R M2 hR xm
  have e4 := h9.yes L rs x m R M2 hR t.man
  have e5 := same_tab (L := L) (m := m) h7 M2 hR hR l26 (by omega)
  obtain ⟨r, M3, e6, hr, fs3⟩ := h8 n M2 L rs R m (s2.feed hn) (s2.wf w nX) hR t
  have s3 := s2.draw hn fs3
  have hr2 : r.1.length ≤ 100 ∧ r.2.length ≤ 100 := hr.2.2
  obtain ⟨k2, M4, e7, hk2, fs4⟩ := h1 n M3 (R.length + 1) (s3.feed hn) (s3.wf w nX) (by omega) (by omega)
  have s4 := s3.draw hn fs4
  have a1 := h11 L rs R m M hR t
  have a2 := same_int h7 R.length M
  have a3 := h12 L rs R m k1 M1 hR t (by omega)
  have kk : k2 ≤ R.length := by omega
  -- the ninth: the change put and taken out again
  have st5 : exec P u (sAt (KB.b_law_back f1 f2 f3 f4 f5 f6 f7 f8 f9 f10 f11 f12) 5) [some (.ref n), some (tabD L rs m), some (.int R.length), some (tabD L rs x), some (rl r), some (.int k2)] M4 = .nx [some (.ref n), some (tabD L rs m), some (.int R.length), some (tabD L rs x), some (rl r), some (.int k2)] M4 := by
    by_cases ok : (∀ c ∈ r.1 ++ r.2, c ∈ L) ∧ r ∉ R
    · have ro : ruleOf L r = true := ruleOf_low t.low hr.1 hr.2.1 (fun c hc => ok.1 c (List.mem_append_left _ hc)) (fun c hc => ok.1 c (List.mem_append_right _ hc))
      obtain ⟨rs', b1, b2⟩ := h3.yes L rs R m r k2 M4 hR lR hr2 ok.1 ok.2 kk
      have b3 := h5.put L rs R m r k2 M4 hR (rOk_of hr2) hln ro ok.2 kk
      have b4 := h6.out L (.key ((putR R r k2).map rl)) (putR R r k2) m k2 M4 rfl (by rw [put_len R r kk]; unfold line; omega) (by rw [put_len R r kk]; omega)
      rw [without_put R r kk] at b4
      have b5 := same_tab (L := L) (m := m) h7 M4 (rs := .key (R.map rl)) (rs' := rs) rfl hR l26 (by omega)
      have nN : (L.drop 1 ++ L.take 1).Nodup := (List.perm_append_comm.trans (by rw [List.take_append_drop])).nodup_iff.mpr (nodup_asc t.asc)
      have b6 := h4 L (L.drop 1 ++ L.take 1) rs R m r k2 M4 hR t hr2 ro ok.2 kk nN (fun c hc => (List.mem_append.mp hc).elim (fun q => t.low c (List.mem_of_mem_drop q)) (fun q => t.low c (List.mem_of_mem_take q))) (by simp; omega)
      have sl1 := slice_tup (L.map sg) (some ((1 : Nat) : Int)) none M4
      rw [cut_from, ← List.map_drop] at sl1
      have sl1 : sliceI (.tup (L.map sg)) (some 1) none M4 = some (.tup ((L.drop 1).map sg)) := sl1
      have sl2 := slice_tup (L.map sg) none (some ((1 : Nat) : Int)) M4
      rw [cut_to, ← List.map_take] at sl2
      have sl2 : sliceI (.tup (L.map sg)) none (some 1) M4 = some (.tup ((L.take 1).map sg)) := sl2
      have ad : ev2 .add (.tup ((L.drop 1).map sg)) (.tup ((L.take 1).map sg)) M4 = some (.tup ((L.drop 1 ++ L.take 1).map sg)) := by
        rw [add_tt M4 (by simp; unfold line; omega)]
        simp
      simp only [sAt, KB.b_law_back]
      generalize (L.drop 1 ++ L.take 1).map sg = N1 at *
      generalize (L.drop 1).map sg = N2 at *
      generalize (L.take 1).map sg = N3 at *
      generalize (putR R r k2).map rl = A1 at *
      generalize R.map rl = A2 at *
      simp [b2, b3, b4, b5, b6, sl1, sl2, ad, line]
    · have b2 := h3.noR L rs R m r k2 M4 hR hr2 ok
      simp [sAt, KB.b_law_back, b2, line]
  have hb : KB.b_law_back f1 f2 f3 f4 f5 f6 f7 f8 f9 f10 f11 f12 = .cons (sAt (KB.b_law_back f1 f2 f3 f4 f5 f6 f7 f8 f9 f10 f11 f12) 0) (.cons (sAt (KB.b_law_back f1 f2 f3 f4 f5 f6 f7 f8 f9 f10 f11 f12) 1) (.cons (sAt (KB.b_law_back f1 f2 f3 f4 f5 f6 f7 f8 f9 f10 f11 f12) 2) (.cons (sAt (KB.b_law_back f1 f2 f3 f4 f5 f6 f7 f8 f9 f10 f11 f12) 3) (.cons (sAt (KB.b_law_back f1 f2 f3 f4 f5 f6 f7 f8 f9 f10 f11 f12) 4) (.cons (sAt (KB.b_law_back f1 f2 f3 f4 f5 f6 f7 f8 f9 f10 f11 f12) 5) (.cons (sAt (KB.b_law_back f1 f2 f3 f4 f5 f6 f7 f8 f9 f10 f11 f12) 6) .nil)))))) := rfl
  have st0 : exec P u (sAt (KB.b_law_back f1 f2 f3 f4 f5 f6 f7 f8 f9 f10 f11 f12) 0) (startE 6 [.ref n, tabD L rs m]) M = .nx [some (.ref n), some (tabD L rs m), some (.int R.length), none, none, none] M := by
    simp [sAt, KB.b_law_back, startE, len_as hR]
  have st1 : exec P u (sAt (KB.b_law_back f1 f2 f3 f4 f5 f6 f7 f8 f9 f10 f11 f12) 1) [some (.ref n), some (tabD L rs m), some (.int R.length), none, none, none] M = .nx [some (.ref n), some (tabD L rs m), some (.int R.length), none, none, none] M1 := by
    simp [sAt, KB.b_law_back, a1, a2, e1, a3]
  have st2 : exec P u (sAt (KB.b_law_back f1 f2 f3 f4 f5 f6 f7 f8 f9 f10 f11 f12) 2) [some (.ref n), some (tabD L rs m), some (.int R.length), none, none, none] M1 = .nx [some (.ref n), some (tabD L rs m), some (.int R.length), some (tabD L rs x), none, none] M2 := by
    simp [sAt, KB.b_law_back, e2, e3, line]
  have st3 : exec P u (sAt (KB.b_law_back f1 f2 f3 f4 f5 f6 f7 f8 f9 f10 f11 f12) 3) [some (.ref n), some (tabD L rs m), some (.int R.length), some (tabD L rs x), none, none] M2 = .nx [some (.ref n), some (tabD L rs m), some (.int R.length), some (tabD L rs x), none, none] M2 := by
    simp [sAt, KB.b_law_back, e4, e5]
  have st4 : exec P u (sAt (KB.b_law_back f1 f2 f3 f4 f5 f6 f7 f8 f9 f10 f11 f12) 4) [some (.ref n), some (tabD L rs m), some (.int R.length), some (tabD L rs x), none, none] M2 = .nx [some (.ref n), some (tabD L rs m), some (.int R.length), some (tabD L rs x), some (rl r), some (.int k2)] M4 := by
    simp [sAt, KB.b_law_back, e6, e7]
  refine run_stX w ?_
  by_cases c0 : R.length = 0
  · refine ⟨.bl true, M4, [], ?_, s4, rfl, rfl⟩
    rw [hb, execs_cons, st0, F.seq_nx, execs_cons, st1, F.seq_nx, execs_cons, st2, F.seq_nx, execs_cons, st3, F.seq_nx, execs_cons, st4, F.seq_nx, execs_cons, st5, F.seq_nx]
    simp [sAt, KB.b_law_back, c0]
  · obtain ⟨k3, M5, e8, hk3, fs5⟩ := h1 n M4 R.length (s4.feed hn) (s4.wf w nX) (by omega) (by omega)
    have e9 := h2 L rs R m k3 M5 hR t (by omega)
    refine ⟨.bl true, M5, [], ?_, s4.draw hn fs5, rfl, rfl⟩
    rw [hb, execs_cons, st0, F.seq_nx, execs_cons, st1, F.seq_nx, execs_cons, st2, F.seq_nx, execs_cons, st3, F.seq_nx, execs_cons, st4, F.seq_nx, execs_cons, st5, F.seq_nx]
    simp [sAt, KB.b_law_back, c0, e8, e9]
theorem law_run {f1 f2 f3 f4 f5 f6 : Nat} (h1 : BackOk (P.S f1)) (h2 : DrawOk (P.S f2)) (h3 : SameTo 10 (P.S f3)) (h4 : Changed (P.S f4)) (h5 : TripleOk (P.S f5)) (h6 : FeedOk (P.S f6)) (ns : List Int) (hns : ns.length ≤ 63) : ∃ M', runF P u 0 6 (KB.b_law f1 f2 f3 f4 f5 f6) [.scr ns] [] = .ok (.bl true) M' := by
  obtain ⟨cs, e0⟩ := h6 ns hns
  have w : Wf [fdO cs 0 0 0] := by
    unfold Wf
    rw [storeBnd_iff]
    intro o ho
    rw [List.mem_singleton.mp ho]
    exact fdO_bnd _ _ _ _ _
  have hf : FeedAt 0 [fdO cs 0 0 0] := ⟨cs, 0, 0, 0, rfl, by omega, by omega⟩
  generalize [fdO cs 0 0 0] = M at *
  have hn := hf.lt
  have nX : ∀ o ∈ ([] : Store), o.bnd (M.length + ([] : Store).length) = true := fun o h => by cases h
  obtain ⟨L, R, m, M1, e1, ⟨hL, mk, hm⟩, fs1⟩ := h5 0 M 8 12 hf w (by omega) (by omega) (by omega)
  have s1 := FS.st hf fs1
  have t0 : TabOk L R m := ⟨hL.ne, hL.low, hL.asc, mk.nd, fun r hr => (mk.ok r hr).of hL.low, fun r hr => by have := (mk.ok r hr).len; omega, by have := mk.len; omega, hm⟩
  obtain ⟨v, M2, e2, hv, fs2⟩ := h2 0 M1 10 (s1.feed hn) (s1.wf w nX) (by decide) (by decide)
  have s2 := s1.draw hn fs2
  have hb : KB.b_law f1 f2 f3 f4 f5 f6 = .cons (sAt (KB.b_law f1 f2 f3 f4 f5 f6) 0) (.cons (sAt (KB.b_law f1 f2 f3 f4 f5 f6) 1) (.cons (.for_ (.nm 3) (.rng1 (.o2 .add (.c (.int 1)) (.call f2 (idPm 2) (.cons (.v 1) (.cons (.c (.int 10)) .nil)) .nil))) (forB (sAt (KB.b_law f1 f2 f3 f4 f5 f6) 2))) (.cons (sAt (KB.b_law f1 f2 f3 f4 f5 f6) 3) .nil))) := rfl
  have st0 : exec P u (sAt (KB.b_law f1 f2 f3 f4 f5 f6) 0) (startE 6 [.scr ns]) [] = .nx [some (.scr ns), some (.ref 0), none, none, none, none] M := by
    simp [sAt, KB.b_law, startE, e0]
  have st1 : exec P u (sAt (KB.b_law f1 f2 f3 f4 f5 f6) 1) [some (.scr ns), some (.ref 0), none, none, none, none] M = .nx [some (.scr ns), some (.ref 0), some (tabD L (.tup (R.map rl)) m), none, none, none] M1 := by
    have e1' : P.S f5 [.ref 0, .int 8, .int 12] M = .ok (tabD L (.tup (R.map rl)) m) M1 := e1
    generalize R.map rl = A at *
    simp [sAt, KB.b_law, e1']
  have en : evI P (.rng1 (.o2 .add (.c (.int 1)) (.call f2 (idPm 2) (.cons (.v 1) (.cons (.c (.int 10)) .nil)) .nil))) [some (.scr ns), some (.ref 0), some (tabD L (.tup (R.map rl)) m), none, none, none] M1 = .ok ((List.range (v + 1)).map fun i => D.int (i : Nat), none) M2 := by
    rw [rng1_of (M' := M2) (i := ((v + 1 : Nat) : Int)) (by simp [e2]; omega) (big_len (by unfold line; omega)), range_n]
  obtain ⟨ρ3, M3, lp, J3⟩ := loop_all (g := none) (xs := (List.range (v + 1)).map fun i => D.int (i : Nat)) (f := forF P u (.nm 3) (forB (sAt (KB.b_law f1 f2 f3 f4 f5 f6) 2))) (M := M2)
    (ρ := [some (.scr ns), some (.ref 0), some (tabD L (.tup (R.map rl)) m), none, none, none])
    (fun pre ρ M' => ∃ a b c L rs R m, ρ = [some (.scr ns), some (.ref 0), some (tabD L rs m), a, b, c] ∧ St 0 M [] M' ∧ asTup rs = some (R.map rl) ∧ TabOk L R m ∧ R.length ≤ 8 + pre.length)
    (fun _ _ _ _ => trivial) ⟨none, none, none, L, .tup (R.map rl), R, m, rfl, s2, rfl, t0, by have := mk.len; omega⟩ (fun pre x suf ρ M' e0 hJ => by
      obtain ⟨a, b, c, L, rs, R, m, rfl, s, hR, t, hk⟩ := hJ
      have hlen : pre.length ≤ 20 := by
        have := congrArg List.length e0
        simp at this
        omega
      obtain ⟨M3, e3, fs3⟩ := h1 0 M' L rs R m (s.feed hn) (s.wf w nX) hR t (by omega)
      have s3 := s.draw hn fs3
      obtain ⟨told, due, M4, e4, td, fs4⟩ := h4 0 M3 L rs R m (s3.feed hn) (s3.wf w nX) hR t (by omega)
      have s4 := s3.draw hn fs4
      have e5 := td.same h3 M4
      rcases td with ⟨L', rs1, rs2, R', m', rfl, rfl, q1, q2, t', hk'⟩ | ⟨w', rfl, rfl⟩
      · refine ⟨_, M4, .inl ?_, some x, some (.tup [.str wGave, tabD L' rs1 m']), some (.key [.str wGave, tabD L' rs2 m']), L', rs2, R', m', rfl, s4, q2, t', by simp; omega⟩
        simp [sAt, forB, KB.b_law, e3, e4, e5]
      · refine ⟨_, M4, .inl ?_, some x, some (.tup [.str wNot, .str w', .int (-1)]), some (noD w'), L, rs, R, m, rfl, s4, hR, t, by simp; omega⟩
        simp [sAt, forB, KB.b_law, e3, e4, e5])
  obtain ⟨a, b, c, L', rs', R', m', rfl, s3, hR, t', hk⟩ := J3
  obtain ⟨M4, e4, fs4⟩ := h1 0 M3 L' rs' R' m' (s3.feed hn) (s3.wf w nX) hR t' (by simp at hk; omega)
  refine ⟨M4, ?_⟩
  unfold runF
  rw [settle0, hb, execs_cons, st0, F.seq_nx, execs_cons, st1, F.seq_nx, execs_cons, exec_for, en, DL.R.toF_ok]
  simp only
  rw [lp, F.seq_nx]
  simp [sAt, KB.b_law, e4]
end
end PL
end
section
set_option Elab.async false
set_option linter.all false
set_option maxRecDepth 100000
set_option autoImplicit false
/-! K11P: the plain law of k11: the levels put together. -/
namespace K11
open DL PL
theorem q_integer (n : Nat) : IsInteger ((bk.Pn un (n + 1)).S 0) := by rw [s_is_integer]; exact isInteger_run
theorem q_number (n : Nat) : IsNumber ((bk.Pn un (n + 2)).S 1) := by rw [s_is_number]; exact isNumber_run (q_integer n)
theorem q_text (n : Nat) : IsText ((bk.Pn un (n + 1)).S 2) := by rw [s_is_text]; exact isText_run (by rw [Bk.G_eq]; rfl)
theorem q_letter (n : Nat) : IsLetter ((bk.Pn un (n + 2)).S 3) := by rw [s_is_letter]; exact isLetter_run (q_text n)
theorem q_piece (n : Nat) : IsPiece ((bk.Pn un (n + 2)).S 4) := by rw [s_is_piece]; exact isPiece_run (q_text n)
theorem q_row (n : Nat) : IsRow ((bk.Pn un (n + 3)).S 5) := by rw [s_is_row]; exact isRow_run (q_piece n)
theorem q_rule (n : Nat) : IsRule ((bk.Pn un (n + 4)).S 6) := by rw [s_is_rule]; exact isRule_run (q_row n)
theorem q_manner (n : Nat) : IsManner ((bk.Pn un (n + 1)).S 7) := by rw [s_is_manner]; exact isManner_run (by rw [Bk.G_eq]; rfl)
theorem q_letters (n : Nat) : AreLetters ((bk.Pn un (n + 3)).S 8) := by rw [s_are_letters]; exact areLetters_run (q_letter n)
theorem q_textOf (n : Nat) : IsTextOf ((bk.Pn un (n + 2)).S 9) := by rw [s_is_text_of]; exact isTextOf_run (q_text n)
theorem q_ruleOf (n : Nat) : IsRuleOf ((bk.Pn un (n + 5)).S 10) := by rw [s_is_rule_of]; exact isRuleOf_run (q_rule n) (q_textOf (n + 2))
theorem q_rulesFault (n : Nat) : RulesFault ((bk.Pn un (n + 6)).S 11) := by rw [s_rules_fault]; exact rulesFault_run (q_ruleOf n)
theorem q_tableFault (n : Nat) : TableFault ((bk.Pn un (n + 7)).S 12) := by rw [s_table_fault]; exact tableFault_run (q_manner (n + 5)) (q_rulesFault n) (q_letters (n + 3))
theorem q_req (n : Nat) : Req 1 ((bk.Pn un (n + 1)).S 13) := by rw [s_require_usable]; exact req_run
theorem q_lets (n : Nat) : LetsTable ((bk.Pn un (n + 8)).S 14) := by rw [s_lets_table]; exact letsTable_run (q_tableFault n)
theorem q_withRule (n : Nat) : WithRule 1 ((bk.Pn un (n + 6)).S 15) := by rw [s_with_rule]; exact withRule_run (q_number (n + 3)) (q_req (n + 4)) (q_ruleOf n)
theorem q_without (n : Nat) : WithoutRule 1 ((bk.Pn un (n + 3)).S 16) := by rw [s_without_rule]; exact withoutRule_run (q_number n) (q_req (n + 1))
theorem q_exchanged (n : Nat) : Exchanged 1 ((bk.Pn un (n + 3)).S 17) := by rw [s_exchanged]; exact exchanged_run (q_number n) (q_req (n + 1))
theorem q_withManner (n : Nat) : WithManner 1 ((bk.Pn un (n + 2)).S 18) := by rw [s_with_manner]; exact withManner_run (q_manner n) (q_req n)
theorem q_withLetters (n : Nat) : WithLetters 1 ((bk.Pn un (n + 4)).S 19) := by rw [s_with_letters]; exact withLetters_run (q_letters n) (q_req (n + 2))
theorem q_first (n : Nat) : FirstRules 1 ((bk.Pn un (n + 3)).S 20) := by rw [s_first_rules]; exact firstRules_run (q_number n) (q_req (n + 1))
theorem q_names (n : Nat) : NamesFor ((bk.Pn un (n + 3)).S 21) := by rw [s_are_names_for]; exact namesFor_run (q_letter n)
theorem q_renamed (n : Nat) : Renamed ((bk.Pn un (n + 4)).S 22) := by rw [s_renamed]; exact renamed_run (q_names n) (q_req (n + 2))
theorem q_mirrored (n : Nat) : Mirrored (bk.W 0) ((bk.Pn un (n + 2)).S 23) := by
  rw [s_mirrored]
  have := mirrored_run (P := bk.Pn un (n + 1)) (u := un) (w := 0) (q_req n)
  rwa [Bk.W_eq] at this
theorem q_feed (n : Nat) : FeedOk ((bk.Pn un (n + 1)).S 24) := by rw [s_law_feed]; exact feedOk_run
theorem q_draw (n : Nat) : DrawOk ((bk.Pn un (n + 1)).S 25) := by rw [s_law_draw]; exact drawOk_run
theorem q_pick (n : Nat) : PickOk ((bk.Pn un (n + 2)).S 26) := by rw [s_law_pick]; exact pickOk_run (q_draw n)
theorem q_lawLetters (n : Nat) : LettersOk ((bk.Pn un (n + 3)).S 27) := by rw [s_law_letters]; exact lettersOk_run (q_draw (n + 1)) (q_pick n)
theorem q_lawPiece (n : Nat) : PieceOk ((bk.Pn un (n + 3)).S 28) := by rw [s_law_piece]; exact pieceOk_run (q_draw (n + 1)) (q_pick n)
theorem q_lawRules (n : Nat) : RulesOk ((bk.Pn un (n + 4)).S 29) := by rw [s_law_rules]; exact rulesOk_run (q_draw (n + 2)) (q_lawPiece n) (q_pick (n + 1))
theorem q_triple (n : Nat) : TripleOk ((bk.Pn un (n + 5)).S 30) := by rw [s_law_triple]; exact tripleOk_run (q_lawRules n) (q_lawLetters (n + 1)) (q_pick (n + 2))
theorem q_sameTo : ∀ k n : Nat, SameTo k ((bk.Pn un (n + k)).S 31)
  | 0, n => fun _ _ _ _ _ _ hd _ => absurd hd (Nat.not_lt_zero _)
  | k + 1, n => by
    rw [← Nat.add_assoc, s_law_same]
    exact same_run (q_sameTo k n)
theorem q_same (n : Nat) : SameTo 10 ((bk.Pn un (n + 10)).S 31) := q_sameTo 10 n
theorem q_no (n : Nat) : LawNo ((bk.Pn un (n + 1)).S 33) := by rw [s_law_no]; exact lawNo_run
theorem q_newRule (n : Nat) : NewRuleOk ((bk.Pn un (n + 4)).S 34) := by rw [s_law_new_rule]; exact newRuleOk_run (q_lawPiece n) (q_pick (n + 1)) (q_draw (n + 2))
theorem q_put (n : Nat) : LawPut ((bk.Pn un (n + 2)).S 35) := by rw [s_law_put]; exact lawPut_run (q_no n)
theorem q_changed (n : Nat) : Changed ((bk.Pn un (n + 7)).S 36) := by
  rw [s_law_changed]
  exact changed_run (c := 1) (q_first (n + 3)) (Bk.T_of rfl) (q_no (n + 5)) (q_withLetters (n + 2)) (q_draw (n + 5)) (q_pick (n + 4)) (q_withManner (n + 4)) (q_exchanged (n + 3)) (q_without (n + 3)) (q_put (n + 4)) (q_withRule n) (q_newRule (n + 2))
theorem q_undone (n : Nat) : Undone ((bk.Pn un (n + 11)).S 37) := by rw [s_law_undone]; exact undone_run (q_same n) (q_exchanged (n + 7)) (q_without (n + 7)) (q_withRule (n + 4))
theorem q_filled (n : Nat) : Filled ((bk.Pn un (n + 11)).S 38) := by rw [s_law_filled]; exact filled_run (q_same n) (q_first (n + 7)) (q_withRule (n + 4))
theorem q_through (n : Nat) : Through ((bk.Pn un (n + 11)).S 39) := by
  rw [s_law_through]
  refine through_run (w := 0) ?_ (q_withRule (n + 4)) (q_same n) (q_renamed (n + 6)) ?_
  · rw [Bk.W_eq]; exact q_mirrored (n + 8)
  · rw [Bk.W_eq]
    intro m hm h1
    simp only [List.mem_cons, List.not_mem_nil, or_false] at hm
    rcases hm with rfl | rfl | rfl | rfl | rfl
    · exact ⟨_, rfl⟩
    · exact ⟨_, rfl⟩
    · exact ⟨_, rfl⟩
    · exact ⟨_, rfl⟩
    · exact absurd rfl h1
theorem q_back (n : Nat) : BackOk ((bk.Pn un (n + 12)).S 40) := by
  rw [s_law_back]
  exact backOk_run (c := 1) (q_draw (n + 10)) (q_undone n) (q_put (n + 9)) (q_through n) (q_withRule (n + 5)) (q_without (n + 8)) (q_same (n + 1)) (q_newRule (n + 7)) (q_withManner (n + 9)) (q_pick (n + 9)) (q_lets (n + 3)) (q_filled n)
theorem plain (ns : List Int) (h : ns.length ≤ 63) (hb : ∀ z ∈ ns, PySem.Builtin.Int.intBits z ≤ 1048576) : ∃ M', (bk.Pn un depth).S 41 [.scr ns] [] = .ok (.bl true) M' := by
  have e : (bk.Pn un depth).S 41 = runF (bk.Pn un 39) un 0 6 (KB.b_law 40 25 31 36 30 24) := s_law 39
  rw [e]
  exact law_run (q_back 27) (q_draw 38) (q_same 29) (q_changed 32) (q_triple 34) (q_feed 38) ns h
end K11
end
section
set_option Elab.async false
set_option linter.all false
set_option maxRecDepth 100000
set_option autoImplicit false
set_option maxHeartbeats 4000000
namespace K11
open PySem PySem.Spec PyProof.Rows L2 LamX DL He
def fn_0 : List He.DefD := [⟨("is_integer", none), "is_integer", "is_integer", defArgs (top 3), defBody (top 3), defScope (top 3), [], []⟩,
  ⟨("is_number", none), "is_number", "is_number", defArgs (top 4), defBody (top 4), defScope (top 4), [], []⟩,
  ⟨("is_text", none), "is_text", "is_text", defArgs (top 5), defBody (top 5), defScope (top 5), [], []⟩,
  ⟨("is_letter", none), "is_letter", "is_letter", defArgs (top 6), defBody (top 6), defScope (top 6), [], []⟩,
  ⟨("is_piece", none), "is_piece", "is_piece", defArgs (top 7), defBody (top 7), defScope (top 7), [], []⟩,
  ⟨("is_row", none), "is_row", "is_row", defArgs (top 8), defBody (top 8), defScope (top 8), [], []⟩,
  ⟨("is_rule", none), "is_rule", "is_rule", defArgs (top 9), defBody (top 9), defScope (top 9), [], []⟩,
  ⟨("is_manner", none), "is_manner", "is_manner", defArgs (top 10), defBody (top 10), defScope (top 10), [], []⟩,
  ⟨("are_letters", none), "are_letters", "are_letters", defArgs (top 11), defBody (top 11), defScope (top 11), [], []⟩,
  ⟨("is_text_of", none), "is_text_of", "is_text_of", defArgs (top 12), defBody (top 12), defScope (top 12), [], []⟩,
  ⟨("is_rule_of", none), "is_rule_of", "is_rule_of", defArgs (top 13), defBody (top 13), defScope (top 13), [], []⟩,
  ⟨("rules_fault", none), "rules_fault", "rules_fault", defArgs (top 14), defBody (top 14), defScope (top 14), [], []⟩,
  ⟨("table_fault", none), "table_fault", "table_fault", defArgs (top 15), defBody (top 15), defScope (top 15), [], []⟩,
  ⟨("require_usable", none), "require_usable", "require_usable", defArgs (top 23), defBody (top 23), defScope (top 23), [], []⟩,
  ⟨("lets_table", none), "lets_table", "lets_table", defArgs (top 24), defBody (top 24), defScope (top 24), [], []⟩,
  ⟨("with_rule", none), "with_rule", "with_rule", defArgs (top 27), defBody (top 27), defScope (top 27), [], [("rank", .non)]⟩,
  ⟨("without_rule", none), "without_rule", "without_rule", defArgs (top 28), defBody (top 28), defScope (top 28), [], []⟩,
  ⟨("exchanged", none), "exchanged", "exchanged", defArgs (top 29), defBody (top 29), defScope (top 29), [], []⟩,
  ⟨("with_manner", none), "with_manner", "with_manner", defArgs (top 30), defBody (top 30), defScope (top 30), [], []⟩,
  ⟨("with_letters", none), "with_letters", "with_letters", defArgs (top 31), defBody (top 31), defScope (top 31), [], []⟩,
  ⟨("first_rules", none), "first_rules", "first_rules", defArgs (top 32), defBody (top 32), defScope (top 32), [], []⟩,
  ⟨("are_names_for", none), "are_names_for", "are_names_for", defArgs (top 33), defBody (top 33), defScope (top 33), [], []⟩,
  ⟨("renamed", none), "renamed", "renamed", defArgs (top 34), defBody (top 34), defScope (top 34), [], []⟩,
  ⟨("mirrored", none), "mirrored", "mirrored", defArgs (top 35), defBody (top 35), defScope (top 35), [], []⟩,
  ⟨("_law_feed", none), "_law_feed", "_law_feed", defArgs (top 37), defBody (top 37), defScope (top 37), [], []⟩,
  ⟨("_law_draw", none), "_law_draw", "_law_draw", defArgs (top 38), defBody (top 38), defScope (top 38), [], []⟩,
  ⟨("_law_pick", none), "_law_pick", "_law_pick", defArgs (top 39), defBody (top 39), defScope (top 39), [], []⟩,
  ⟨("_law_letters", none), "_law_letters", "_law_letters", defArgs (top 40), defBody (top 40), defScope (top 40), [], []⟩,
  ⟨("_law_piece", none), "_law_piece", "_law_piece", defArgs (top 41), defBody (top 41), defScope (top 41), [], []⟩,
  ⟨("_law_rules", none), "_law_rules", "_law_rules", defArgs (top 42), defBody (top 42), defScope (top 42), [], []⟩]
def fn_1 : List He.DefD := [⟨("_law_triple", none), "_law_triple", "_law_triple", defArgs (top 43), defBody (top 43), defScope (top 43), [], []⟩,
  ⟨("_law_same", none), "_law_same", "_law_same", defArgs (top 44), defBody (top 44), defScope (top 44), [], []⟩,
  ⟨("_law_heard", none), "_law_heard", "_law_heard", defArgs (top 45), defBody (top 45), defScope (top 45), [], []⟩,
  ⟨("_law_no", none), "_law_no", "_law_no", defArgs (top 46), defBody (top 46), defScope (top 46), [], []⟩,
  ⟨("_law_new_rule", none), "_law_new_rule", "_law_new_rule", defArgs (top 47), defBody (top 47), defScope (top 47), [], []⟩,
  ⟨("_law_put", none), "_law_put", "_law_put", defArgs (top 48), defBody (top 48), defScope (top 48), [], []⟩,
  ⟨("_law_changed", none), "_law_changed", "_law_changed", defArgs (top 49), defBody (top 49), defScope (top 49), [], []⟩,
  ⟨("_law_undone", none), "_law_undone", "_law_undone", defArgs (top 50), defBody (top 50), defScope (top 50), [], []⟩,
  ⟨("_law_filled", none), "_law_filled", "_law_filled", defArgs (top 51), defBody (top 51), defScope (top 51), [], []⟩,
  ⟨("_law_through", none), "_law_through", "_law_through", defArgs (top 52), defBody (top 52), defScope (top 52), [], []⟩,
  ⟨("_law_back", none), "_law_back", "_law_back", defArgs (top 53), defBody (top 53), defScope (top 53), [], []⟩,
  ⟨("law", none), "law", "law", defArgs (top 54), defBody (top 54), defScope (top 54), [], []⟩]
def fn : List He.DefD := fn_0 ++ fn_1
def fa_0 : List He.Fa := [.free "len",
  .free "tuple",
  .free "list",
  .free "int",
  .free "str",
  .free "bool",
  .free "all",
  .free "any",
  .free "sum",
  .free "set",
  .free "sorted",
  .free "range",
  .free "enumerate",
  .free "zip",
  .free "isinstance",
  .glo "is_integer",
  .glo "is_number",
  .glo "is_text",
  .glo "is_letter",
  .glo "is_piece",
  .glo "is_row",
  .glo "is_rule",
  .glo "is_manner",
  .glo "are_letters",
  .glo "is_text_of",
  .glo "is_rule_of",
  .glo "rules_fault",
  .glo "table_fault",
  .glo "require_usable",
  .glo "lets_table"]
def fa_1 : List He.Fa := [.glo "with_rule",
  .glo "without_rule",
  .glo "exchanged",
  .glo "with_manner",
  .glo "with_letters",
  .glo "first_rules",
  .glo "are_names_for",
  .glo "renamed",
  .glo "mirrored",
  .glo "_law_feed",
  .glo "_law_draw",
  .glo "_law_pick",
  .glo "_law_letters",
  .glo "_law_piece",
  .glo "_law_rules",
  .glo "_law_triple",
  .glo "_law_same",
  .glo "_law_heard",
  .glo "_law_no",
  .glo "_law_new_rule",
  .glo "_law_put",
  .glo "_law_changed",
  .glo "_law_undone",
  .glo "_law_filled",
  .glo "_law_through",
  .glo "_law_back",
  .glo "law",
  .glo "InvalidPaper",
  .glo "NotUsable",
  .glo "MIRRORS"]
def fa_2 : List He.Fa := [.str "LETTERS" (cs [97, 98, 99, 100, 101, 102, 103, 104, 105, 106, 107, 108, 109, 110, 111, 112, 113, 114, 115, 116, 117, 118, 119, 120, 121, 122]),
  .glo "MANNERS"]
def fa : List He.Fa := fa_0 ++ fa_1 ++ fa_2
def tf : List He.Defn := [("_law_changed", none)]
def e_InvalidPaper : ExD := ⟨"InvalidPaper", "word", "at"⟩
def e_NotUsable : ExD := ⟨"NotUsable", "word", "at"⟩
def xs : List (ExD × Stmt) := [(e_InvalidPaper, inClass (top 20) 0), (e_NotUsable, inClass (top 21) 0)]
def ts : List He.Tab := [(fun K => ga K "MIRRORS", keysD wl_MIRRORS)]
def ex (K : PySem.W.Frag) : Bool := (ndT K tf && (exB PySem.Challenge.pw_paircuts_k11_whole_changes_there_and_bac K e_InvalidPaper && (exB PySem.Challenge.pw_paircuts_k11_whole_changes_there_and_bac K e_NotUsable && (tupD K "MANNERS" [.str [114, 97, 110, 107, 101, 100], .str [114, 105, 103, 104, 116, 114, 97, 110, 107, 101, 100], .str [108, 101, 102, 116, 109, 111, 115, 116], .str [114, 105, 103, 104, 116, 109, 111, 115, 116], .str [111, 110, 99, 101]] && valsB K (ga K "MIRRORS") (valsD wl_MIRRORS)))))
def hd : HkD := ⟨fa, fn, ts, tf, ex, xs⟩
def loose_0 : List Str := ["LETTERS",
  "MANNERS",
  "is_integer",
  "is_number",
  "is_text",
  "is_letter",
  "is_piece",
  "is_row",
  "is_rule",
  "is_manner",
  "are_letters",
  "is_text_of",
  "is_rule_of",
  "rules_fault",
  "table_fault",
  "PairError",
  "PaperError",
  "TableError",
  "InvalidPaper",
  "NotUsable",
  "require_usable",
  "lets_table",
  "MIRRORS",
  "with_rule",
  "without_rule",
  "exchanged",
  "with_manner",
  "with_letters",
  "first_rules",
  "are_names_for"]
def loose_1 : List Str := ["renamed",
  "mirrored",
  "_law_feed",
  "_law_draw",
  "_law_pick",
  "_law_letters",
  "_law_piece",
  "_law_rules",
  "_law_triple",
  "_law_same",
  "_law_heard",
  "_law_no",
  "_law_new_rule",
  "_law_put",
  "_law_changed",
  "_law_undone",
  "_law_filled",
  "_law_through",
  "_law_back"]
def loose : List Str := loose_0 ++ loose_1
abbrev R : PySem.W.OpenRow := PySem.W.OpenLaw.row PySem.Challenge.rw_paircuts_k11_whole_changes_there_and_bac
abbrev hk : PySem.W.Hook := hd.hook 5
def ob (s : PySem.W.SharedT) : AlW := hd.obs 5 (HandSHeadRun.getT s)
theorem ob_eq (s : PySem.W.SharedT) : ob s = hk.obs s.abs := HkD.obs_eq (HandSHeadRun.getT_eq s)
theorem run (w : World) : HandSHeadRun.RunEq R (PySem.W.view R.prog [54]) hk ob 4000 loose w := PySem.W.byRow2 "special-get-raises" (P := fun w => HandSHeadRun.RunEq R (PySem.W.view R.prog [54]) hk ob 4000 loose w) (fun w => by intro os; kernel_rfl) (fun w => by intro os; kernel_rfl) w
def fixOf (K : PySem.W.Frag) : Fix := { K := K, fa := fun i => match fn[i]? with | some d => fAd K d.at_ | none => 0, ca := fun c => match xs[c]? with | some q => ga K q.1.x | none => 0, cf := fun c => match xs[c]? with | some q => [q.1.n1, q.1.n2] | none => [], oa := fun _ => 0, fn := fun _ => "", TT := ttOf K tf }
section
variable {P : Program} {w : World} {K : PySem.W.Frag} {h : Heap} {mg : Str → Option Value} {base : Heap} {n : Nat}
theorem bl_ (c : hd.Says w h K) (X : K.In h) (G : h.Ns mainGlobals mg) : Bl mg :=
  ⟨free_ok X G (c.fact 0), free_ok X G (c.fact 1), free_ok X G (c.fact 2), free_ok X G (c.fact 3), free_ok X G (c.fact 4), free_ok X G (c.fact 5), free_ok X G (c.fact 6), free_ok X G (c.fact 7), free_ok X G (c.fact 8), free_ok X G (c.fact 9), free_ok X G (c.fact 10), free_ok X G (c.fact 11), free_ok X G (c.fact 12), free_ok X G (c.fact 13), free_ok X G (c.fact 14)⟩
theorem tx_InvalidPaper : e_InvalidPaper.txt (inClass (top 20) 0) := ⟨_, _, _, _, _, _, _, _, _, _, _, _, _, _, _, _, _, _, rfl, rfl, rfl, rfl⟩
theorem tx_NotUsable : e_NotUsable.txt (inClass (top 21) 0) := ⟨_, _, _, _, _, _, _, _, _, _, _, _, _, _, _, _, _, _, rfl, rfl, rfl, rfl⟩
theorem exs_ (c : hd.Says w h K) : ex K = true := c.x.more
theorem TX_InvalidPaper (c : hd.Says w h K) (X : K.In h) (G : h.Ns mainGlobals mg) : TpX (fixOf K) PySem.Challenge.pw_paircuts_k11_whole_changes_there_and_bac K mg "InvalidPaper" 0 "word" "at" := tpx_of (e := e_InvalidPaper) WAX.nm_word_at X G tx_InvalidPaper (c.exc 0) (ba (ba (exs_ c)).2).1 (c.fact 57) rfl rfl
theorem TX_NotUsable (c : hd.Says w h K) (X : K.In h) (G : h.Ns mainGlobals mg) : TpX (fixOf K) PySem.Challenge.pw_paircuts_k11_whole_changes_there_and_bac K mg "NotUsable" 1 "word" "at" := tpx_of (e := e_NotUsable) WAX.nm_word_at X G tx_NotUsable (c.exc 1) (ba (ba (ba (exs_ c)).2).2).1 (c.fact 58) rfl rfl
theorem TD_MIRRORS {Pf : Fns} (hP : Pf.Wd 0 = wl_MIRRORS) (c : hd.Says w h K) (X : K.In h) (G : h.Ns mainGlobals mg) : TpW (fixOf K) K w mg Pf "MIRRORS" 0 := tpw_of (wl := wl_MIRRORS) X G (c.fact 59) (says_tab c 0) (ba (ba (ba (ba (exs_ c)).2).2).2).2 (by decide +kernel) hP
theorem sc_is_integer : FnScope n_is_integer ["thing"] (defScope (top 3)) := ⟨rfl, rfl, rfl, by decide +kernel, rfl, by decide +kernel, by decide +kernel⟩
theorem sc_is_number : FnScope n_is_number ["thing"] (defScope (top 4)) := ⟨rfl, rfl, rfl, by decide +kernel, rfl, by decide +kernel, by decide +kernel⟩
theorem sc_is_text : FnScope n_is_text ["thing"] (defScope (top 5)) := ⟨rfl, rfl, rfl, by decide +kernel, rfl, by decide +kernel, by decide +kernel⟩
theorem sc_is_letter : FnScope n_is_letter ["thing"] (defScope (top 6)) := ⟨rfl, rfl, rfl, by decide +kernel, rfl, by decide +kernel, by decide +kernel⟩
theorem sc_is_piece : FnScope n_is_piece ["thing"] (defScope (top 7)) := ⟨rfl, rfl, rfl, by decide +kernel, rfl, by decide +kernel, by decide +kernel⟩
theorem sc_is_row : FnScope n_is_row ["thing"] (defScope (top 8)) := ⟨rfl, rfl, rfl, by decide +kernel, rfl, by decide +kernel, by decide +kernel⟩
theorem sc_is_rule : FnScope n_is_rule ["thing"] (defScope (top 9)) := ⟨rfl, rfl, rfl, by decide +kernel, rfl, by decide +kernel, by decide +kernel⟩
theorem sc_is_manner : FnScope n_is_manner ["thing"] (defScope (top 10)) := ⟨rfl, rfl, rfl, by decide +kernel, rfl, by decide +kernel, by decide +kernel⟩
theorem sc_are_letters : FnScope n_are_letters ["thing"] (defScope (top 11)) := ⟨rfl, rfl, rfl, by decide +kernel, rfl, by decide +kernel, by decide +kernel⟩
theorem sc_is_text_of : FnScope n_is_text_of ["thing", "letters"] (defScope (top 12)) := ⟨rfl, rfl, rfl, by decide +kernel, rfl, by decide +kernel, by decide +kernel⟩
theorem sc_is_rule_of : FnScope n_is_rule_of ["thing", "letters"] (defScope (top 13)) := ⟨rfl, rfl, rfl, by decide +kernel, rfl, by decide +kernel, by decide +kernel⟩
theorem sc_rules_fault : FnScope n_rules_fault ["rules", "letters"] (defScope (top 14)) := ⟨rfl, rfl, rfl, by decide +kernel, rfl, by decide +kernel, by decide +kernel⟩
theorem sc_table_fault : FnScope n_table_fault ["thing"] (defScope (top 15)) := ⟨rfl, rfl, rfl, by decide +kernel, rfl, by decide +kernel, by decide +kernel⟩
theorem sc_require_usable : FnScope n_require_usable ["is_usable", "word"] (defScope (top 23)) := ⟨rfl, rfl, rfl, by decide +kernel, rfl, by decide +kernel, by decide +kernel⟩
theorem sc_lets_table : FnScope n_lets_table ["thing"] (defScope (top 24)) := ⟨rfl, rfl, rfl, by decide +kernel, rfl, by decide +kernel, by decide +kernel⟩
theorem sc_with_rule : FnScope n_with_rule ["table", "rule", "rank"] (defScope (top 27)) := ⟨rfl, rfl, rfl, by decide +kernel, rfl, by decide +kernel, by decide +kernel⟩
theorem sc_without_rule : FnScope n_without_rule ["table", "rank"] (defScope (top 28)) := ⟨rfl, rfl, rfl, by decide +kernel, rfl, by decide +kernel, by decide +kernel⟩
theorem sc_exchanged : FnScope n_exchanged ["table", "rank"] (defScope (top 29)) := ⟨rfl, rfl, rfl, by decide +kernel, rfl, by decide +kernel, by decide +kernel⟩
theorem sc_with_manner : FnScope n_with_manner ["table", "manner"] (defScope (top 30)) := ⟨rfl, rfl, rfl, by decide +kernel, rfl, by decide +kernel, by decide +kernel⟩
theorem sc_with_letters : FnScope n_with_letters ["table", "letters"] (defScope (top 31)) := ⟨rfl, rfl, rfl, by decide +kernel, rfl, by decide +kernel, by decide +kernel⟩
theorem sc_first_rules : FnScope n_first_rules ["table", "n"] (defScope (top 32)) := ⟨rfl, rfl, rfl, by decide +kernel, rfl, by decide +kernel, by decide +kernel⟩
theorem sc_are_names_for : FnScope n_are_names_for ["thing", "letters"] (defScope (top 33)) := ⟨rfl, rfl, rfl, by decide +kernel, rfl, by decide +kernel, by decide +kernel⟩
theorem sc_renamed : FnScope n_renamed ["table", "letters"] (defScope (top 34)) := ⟨rfl, rfl, rfl, by decide +kernel, rfl, by decide +kernel, by decide +kernel⟩
theorem sc_mirrored : FnScope n_mirrored ["table"] (defScope (top 35)) := ⟨rfl, rfl, rfl, by decide +kernel, rfl, by decide +kernel, by decide +kernel⟩
theorem sc__law_feed : FnScope n__law_feed ["_law_script"] (defScope (top 37)) := ⟨rfl, rfl, rfl, by decide +kernel, rfl, by decide +kernel, by decide +kernel⟩
theorem sc__law_draw : FnScope n__law_draw ["_law_feed_here", "_law_many"] (defScope (top 38)) := ⟨rfl, rfl, rfl, by decide +kernel, rfl, by decide +kernel, by decide +kernel⟩
theorem sc__law_pick : FnScope n__law_pick ["_law_feed_here", "_law_things"] (defScope (top 39)) := ⟨rfl, rfl, rfl, by decide +kernel, rfl, by decide +kernel, by decide +kernel⟩
theorem sc__law_letters : FnScope n__law_letters ["_law_feed_here"] (defScope (top 40)) := ⟨rfl, rfl, rfl, by decide +kernel, rfl, by decide +kernel, by decide +kernel⟩
theorem sc__law_piece : FnScope n__law_piece ["_law_feed_here", "_law_signs", "_law_most"] (defScope (top 41)) := ⟨rfl, rfl, rfl, by decide +kernel, rfl, by decide +kernel, by decide +kernel⟩
theorem sc__law_rules : FnScope n__law_rules ["_law_feed_here", "_law_signs", "_law_many", "_law_most"] (defScope (top 42)) := ⟨rfl, rfl, rfl, by decide +kernel, rfl, by decide +kernel, by decide +kernel⟩
theorem sc__law_triple : FnScope n__law_triple ["_law_feed_here", "_law_many", "_law_most"] (defScope (top 43)) := ⟨rfl, rfl, rfl, by decide +kernel, rfl, by decide +kernel, by decide +kernel⟩
theorem sc__law_same : FnScope n__law_same ["_law_told", "_law_due"] (defScope (top 44)) := ⟨rfl, rfl, rfl, by decide +kernel, rfl, by decide +kernel, by decide +kernel⟩
theorem sc__law_no : FnScope n__law_no ["_law_word"] (defScope (top 46)) := ⟨rfl, rfl, rfl, by decide +kernel, rfl, by decide +kernel, by decide +kernel⟩
theorem sc__law_new_rule : FnScope n__law_new_rule ["_law_feed_here", "_law_triple_here"] (defScope (top 47)) := ⟨rfl, rfl, rfl, by decide +kernel, rfl, by decide +kernel, by decide +kernel⟩
theorem sc__law_put : FnScope n__law_put ["_law_triple_here", "_law_pair", "_law_k"] (defScope (top 48)) := ⟨rfl, rfl, rfl, by decide +kernel, rfl, by decide +kernel, by decide +kernel⟩
theorem sc__law_changed : FnScope n__law_changed ["_law_feed_here", "_law_triple_here"] (defScope (top 49)) := ⟨rfl, rfl, rfl, by decide +kernel, rfl, by decide +kernel, by decide +kernel⟩
theorem sc__law_undone : FnScope n__law_undone ["_law_triple_here", "_law_k"] (defScope (top 50)) := ⟨rfl, rfl, rfl, by decide +kernel, rfl, by decide +kernel, by decide +kernel⟩
theorem sc__law_filled : FnScope n__law_filled ["_law_triple_here", "_law_k"] (defScope (top 51)) := ⟨rfl, rfl, rfl, by decide +kernel, rfl, by decide +kernel, by decide +kernel⟩
theorem sc__law_through : FnScope n__law_through ["_law_triple_here", "_law_pair", "_law_k", "_law_signs"] (defScope (top 52)) := ⟨rfl, rfl, rfl, by decide +kernel, rfl, by decide +kernel, by decide +kernel⟩
theorem sc__law_back : FnScope n__law_back ["_law_feed_here", "_law_triple_here"] (defScope (top 53)) := ⟨rfl, rfl, rfl, by decide +kernel, rfl, by decide +kernel, by decide +kernel⟩
theorem sc_law : FnScope n_law ["_law_script"] (defScope (top 54)) := ⟨rfl, rfl, rfl, by decide +kernel, rfl, by decide +kernel, by decide +kernel⟩
theorem bd_is_integer {f : Addr} {fd : FuncData} (F : FunD K "is_integer" "is_integer" (defArgs (top 3)) (defBody (top 3)) (defScope (top 3)) [] [] f fd) : Binds K fd ["thing"] [] := FunD.bindsN F fun _ _ _ _ _ _ us hl => match us, hl with | [_], _ => rfl
theorem bd_is_number {f : Addr} {fd : FuncData} (F : FunD K "is_number" "is_number" (defArgs (top 4)) (defBody (top 4)) (defScope (top 4)) [] [] f fd) : Binds K fd ["thing"] [] := FunD.bindsN F fun _ _ _ _ _ _ us hl => match us, hl with | [_], _ => rfl
theorem bd_is_text {f : Addr} {fd : FuncData} (F : FunD K "is_text" "is_text" (defArgs (top 5)) (defBody (top 5)) (defScope (top 5)) [] [] f fd) : Binds K fd ["thing"] [] := FunD.bindsN F fun _ _ _ _ _ _ us hl => match us, hl with | [_], _ => rfl
theorem bd_is_letter {f : Addr} {fd : FuncData} (F : FunD K "is_letter" "is_letter" (defArgs (top 6)) (defBody (top 6)) (defScope (top 6)) [] [] f fd) : Binds K fd ["thing"] [] := FunD.bindsN F fun _ _ _ _ _ _ us hl => match us, hl with | [_], _ => rfl
theorem bd_is_piece {f : Addr} {fd : FuncData} (F : FunD K "is_piece" "is_piece" (defArgs (top 7)) (defBody (top 7)) (defScope (top 7)) [] [] f fd) : Binds K fd ["thing"] [] := FunD.bindsN F fun _ _ _ _ _ _ us hl => match us, hl with | [_], _ => rfl
theorem bd_is_row {f : Addr} {fd : FuncData} (F : FunD K "is_row" "is_row" (defArgs (top 8)) (defBody (top 8)) (defScope (top 8)) [] [] f fd) : Binds K fd ["thing"] [] := FunD.bindsN F fun _ _ _ _ _ _ us hl => match us, hl with | [_], _ => rfl
theorem bd_is_rule {f : Addr} {fd : FuncData} (F : FunD K "is_rule" "is_rule" (defArgs (top 9)) (defBody (top 9)) (defScope (top 9)) [] [] f fd) : Binds K fd ["thing"] [] := FunD.bindsN F fun _ _ _ _ _ _ us hl => match us, hl with | [_], _ => rfl
theorem bd_is_manner {f : Addr} {fd : FuncData} (F : FunD K "is_manner" "is_manner" (defArgs (top 10)) (defBody (top 10)) (defScope (top 10)) [] [] f fd) : Binds K fd ["thing"] [] := FunD.bindsN F fun _ _ _ _ _ _ us hl => match us, hl with | [_], _ => rfl
theorem bd_are_letters {f : Addr} {fd : FuncData} (F : FunD K "are_letters" "are_letters" (defArgs (top 11)) (defBody (top 11)) (defScope (top 11)) [] [] f fd) : Binds K fd ["thing"] [] := FunD.bindsN F fun _ _ _ _ _ _ us hl => match us, hl with | [_], _ => rfl
theorem bd_is_text_of {f : Addr} {fd : FuncData} (F : FunD K "is_text_of" "is_text_of" (defArgs (top 12)) (defBody (top 12)) (defScope (top 12)) [] [] f fd) : Binds K fd ["thing", "letters"] [] := FunD.bindsN F fun _ _ _ _ _ _ us hl => match us, hl with | [_, _], _ => rfl
theorem bd_is_rule_of {f : Addr} {fd : FuncData} (F : FunD K "is_rule_of" "is_rule_of" (defArgs (top 13)) (defBody (top 13)) (defScope (top 13)) [] [] f fd) : Binds K fd ["thing", "letters"] [] := FunD.bindsN F fun _ _ _ _ _ _ us hl => match us, hl with | [_, _], _ => rfl
theorem bd_rules_fault {f : Addr} {fd : FuncData} (F : FunD K "rules_fault" "rules_fault" (defArgs (top 14)) (defBody (top 14)) (defScope (top 14)) [] [] f fd) : Binds K fd ["rules", "letters"] [] := FunD.bindsN F fun _ _ _ _ _ _ us hl => match us, hl with | [_, _], _ => rfl
theorem bd_table_fault {f : Addr} {fd : FuncData} (F : FunD K "table_fault" "table_fault" (defArgs (top 15)) (defBody (top 15)) (defScope (top 15)) [] [] f fd) : Binds K fd ["thing"] [] := FunD.bindsN F fun _ _ _ _ _ _ us hl => match us, hl with | [_], _ => rfl
theorem bd_require_usable {f : Addr} {fd : FuncData} (F : FunD K "require_usable" "require_usable" (defArgs (top 23)) (defBody (top 23)) (defScope (top 23)) [] [] f fd) : Binds K fd ["is_usable", "word"] [] := FunD.bindsN F fun _ _ _ _ _ _ us hl => match us, hl with | [_, _], _ => rfl
theorem bd_lets_table {f : Addr} {fd : FuncData} (F : FunD K "lets_table" "lets_table" (defArgs (top 24)) (defBody (top 24)) (defScope (top 24)) [] [] f fd) : Binds K fd ["thing"] [] := FunD.bindsN F fun _ _ _ _ _ _ us hl => match us, hl with | [_], _ => rfl
theorem bd_without_rule {f : Addr} {fd : FuncData} (F : FunD K "without_rule" "without_rule" (defArgs (top 28)) (defBody (top 28)) (defScope (top 28)) [] [] f fd) : Binds K fd ["table", "rank"] [] := FunD.bindsN F fun _ _ _ _ _ _ us hl => match us, hl with | [_, _], _ => rfl
theorem bd_exchanged {f : Addr} {fd : FuncData} (F : FunD K "exchanged" "exchanged" (defArgs (top 29)) (defBody (top 29)) (defScope (top 29)) [] [] f fd) : Binds K fd ["table", "rank"] [] := FunD.bindsN F fun _ _ _ _ _ _ us hl => match us, hl with | [_, _], _ => rfl
theorem bd_with_manner {f : Addr} {fd : FuncData} (F : FunD K "with_manner" "with_manner" (defArgs (top 30)) (defBody (top 30)) (defScope (top 30)) [] [] f fd) : Binds K fd ["table", "manner"] [] := FunD.bindsN F fun _ _ _ _ _ _ us hl => match us, hl with | [_, _], _ => rfl
theorem bd_with_letters {f : Addr} {fd : FuncData} (F : FunD K "with_letters" "with_letters" (defArgs (top 31)) (defBody (top 31)) (defScope (top 31)) [] [] f fd) : Binds K fd ["table", "letters"] [] := FunD.bindsN F fun _ _ _ _ _ _ us hl => match us, hl with | [_, _], _ => rfl
theorem bd_first_rules {f : Addr} {fd : FuncData} (F : FunD K "first_rules" "first_rules" (defArgs (top 32)) (defBody (top 32)) (defScope (top 32)) [] [] f fd) : Binds K fd ["table", "n"] [] := FunD.bindsN F fun _ _ _ _ _ _ us hl => match us, hl with | [_, _], _ => rfl
theorem bd_are_names_for {f : Addr} {fd : FuncData} (F : FunD K "are_names_for" "are_names_for" (defArgs (top 33)) (defBody (top 33)) (defScope (top 33)) [] [] f fd) : Binds K fd ["thing", "letters"] [] := FunD.bindsN F fun _ _ _ _ _ _ us hl => match us, hl with | [_, _], _ => rfl
theorem bd_renamed {f : Addr} {fd : FuncData} (F : FunD K "renamed" "renamed" (defArgs (top 34)) (defBody (top 34)) (defScope (top 34)) [] [] f fd) : Binds K fd ["table", "letters"] [] := FunD.bindsN F fun _ _ _ _ _ _ us hl => match us, hl with | [_, _], _ => rfl
theorem bd_mirrored {f : Addr} {fd : FuncData} (F : FunD K "mirrored" "mirrored" (defArgs (top 35)) (defBody (top 35)) (defScope (top 35)) [] [] f fd) : Binds K fd ["table"] [] := FunD.bindsN F fun _ _ _ _ _ _ us hl => match us, hl with | [_], _ => rfl
theorem bd__law_feed {f : Addr} {fd : FuncData} (F : FunD K "_law_feed" "_law_feed" (defArgs (top 37)) (defBody (top 37)) (defScope (top 37)) [] [] f fd) : Binds K fd ["_law_script"] [] := FunD.bindsN F fun _ _ _ _ _ _ us hl => match us, hl with | [_], _ => rfl
theorem bd__law_draw {f : Addr} {fd : FuncData} (F : FunD K "_law_draw" "_law_draw" (defArgs (top 38)) (defBody (top 38)) (defScope (top 38)) [] [] f fd) : Binds K fd ["_law_feed_here", "_law_many"] [] := FunD.bindsN F fun _ _ _ _ _ _ us hl => match us, hl with | [_, _], _ => rfl
theorem bd__law_pick {f : Addr} {fd : FuncData} (F : FunD K "_law_pick" "_law_pick" (defArgs (top 39)) (defBody (top 39)) (defScope (top 39)) [] [] f fd) : Binds K fd ["_law_feed_here", "_law_things"] [] := FunD.bindsN F fun _ _ _ _ _ _ us hl => match us, hl with | [_, _], _ => rfl
theorem bd__law_letters {f : Addr} {fd : FuncData} (F : FunD K "_law_letters" "_law_letters" (defArgs (top 40)) (defBody (top 40)) (defScope (top 40)) [] [] f fd) : Binds K fd ["_law_feed_here"] [] := FunD.bindsN F fun _ _ _ _ _ _ us hl => match us, hl with | [_], _ => rfl
theorem bd__law_piece {f : Addr} {fd : FuncData} (F : FunD K "_law_piece" "_law_piece" (defArgs (top 41)) (defBody (top 41)) (defScope (top 41)) [] [] f fd) : Binds K fd ["_law_feed_here", "_law_signs", "_law_most"] [] := FunD.bindsN F fun _ _ _ _ _ _ us hl => match us, hl with | [_, _, _], _ => rfl
theorem bd__law_rules {f : Addr} {fd : FuncData} (F : FunD K "_law_rules" "_law_rules" (defArgs (top 42)) (defBody (top 42)) (defScope (top 42)) [] [] f fd) : Binds K fd ["_law_feed_here", "_law_signs", "_law_many", "_law_most"] [] := FunD.bindsN F fun _ _ _ _ _ _ us hl => match us, hl with | [_, _, _, _], _ => rfl
theorem bd__law_triple {f : Addr} {fd : FuncData} (F : FunD K "_law_triple" "_law_triple" (defArgs (top 43)) (defBody (top 43)) (defScope (top 43)) [] [] f fd) : Binds K fd ["_law_feed_here", "_law_many", "_law_most"] [] := FunD.bindsN F fun _ _ _ _ _ _ us hl => match us, hl with | [_, _, _], _ => rfl
theorem bd__law_same {f : Addr} {fd : FuncData} (F : FunD K "_law_same" "_law_same" (defArgs (top 44)) (defBody (top 44)) (defScope (top 44)) [] [] f fd) : Binds K fd ["_law_told", "_law_due"] [] := FunD.bindsN F fun _ _ _ _ _ _ us hl => match us, hl with | [_, _], _ => rfl
theorem bd__law_heard {f : Addr} {fd : FuncData} (F : FunD K "_law_heard" "_law_heard" (defArgs (top 45)) (defBody (top 45)) (defScope (top 45)) [] [] f fd) : Binds K fd ["_law_ask"] [] := FunD.bindsN F fun _ _ _ _ _ _ us hl => match us, hl with | [_], _ => rfl
theorem bd__law_no {f : Addr} {fd : FuncData} (F : FunD K "_law_no" "_law_no" (defArgs (top 46)) (defBody (top 46)) (defScope (top 46)) [] [] f fd) : Binds K fd ["_law_word"] [] := FunD.bindsN F fun _ _ _ _ _ _ us hl => match us, hl with | [_], _ => rfl
theorem bd__law_new_rule {f : Addr} {fd : FuncData} (F : FunD K "_law_new_rule" "_law_new_rule" (defArgs (top 47)) (defBody (top 47)) (defScope (top 47)) [] [] f fd) : Binds K fd ["_law_feed_here", "_law_triple_here"] [] := FunD.bindsN F fun _ _ _ _ _ _ us hl => match us, hl with | [_, _], _ => rfl
theorem bd__law_put {f : Addr} {fd : FuncData} (F : FunD K "_law_put" "_law_put" (defArgs (top 48)) (defBody (top 48)) (defScope (top 48)) [] [] f fd) : Binds K fd ["_law_triple_here", "_law_pair", "_law_k"] [] := FunD.bindsN F fun _ _ _ _ _ _ us hl => match us, hl with | [_, _, _], _ => rfl
theorem bd__law_changed {f : Addr} {fd : FuncData} (F : FunD K "_law_changed" "_law_changed" (defArgs (top 49)) (defBody (top 49)) (defScope (top 49)) [] [] f fd) : Binds K fd ["_law_feed_here", "_law_triple_here"] [] := FunD.bindsN F fun _ _ _ _ _ _ us hl => match us, hl with | [_, _], _ => rfl
theorem bd__law_undone {f : Addr} {fd : FuncData} (F : FunD K "_law_undone" "_law_undone" (defArgs (top 50)) (defBody (top 50)) (defScope (top 50)) [] [] f fd) : Binds K fd ["_law_triple_here", "_law_k"] [] := FunD.bindsN F fun _ _ _ _ _ _ us hl => match us, hl with | [_, _], _ => rfl
theorem bd__law_filled {f : Addr} {fd : FuncData} (F : FunD K "_law_filled" "_law_filled" (defArgs (top 51)) (defBody (top 51)) (defScope (top 51)) [] [] f fd) : Binds K fd ["_law_triple_here", "_law_k"] [] := FunD.bindsN F fun _ _ _ _ _ _ us hl => match us, hl with | [_, _], _ => rfl
theorem bd__law_through {f : Addr} {fd : FuncData} (F : FunD K "_law_through" "_law_through" (defArgs (top 52)) (defBody (top 52)) (defScope (top 52)) [] [] f fd) : Binds K fd ["_law_triple_here", "_law_pair", "_law_k", "_law_signs"] [] := FunD.bindsN F fun _ _ _ _ _ _ us hl => match us, hl with | [_, _, _, _], _ => rfl
theorem bd__law_back {f : Addr} {fd : FuncData} (F : FunD K "_law_back" "_law_back" (defArgs (top 53)) (defBody (top 53)) (defScope (top 53)) [] [] f fd) : Binds K fd ["_law_feed_here", "_law_triple_here"] [] := FunD.bindsN F fun _ _ _ _ _ _ us hl => match us, hl with | [_, _], _ => rfl
theorem bd_law {f : Addr} {fd : FuncData} (F : FunD K "law" "law" (defArgs (top 54)) (defBody (top 54)) (defScope (top 54)) [] [] f fd) : Binds K fd ["_law_script"] [] := FunD.bindsN F fun _ _ _ _ _ _ us hl => match us, hl with | [_], _ => rfl
theorem tk_with_rule {fd : FuncData} {k : Nat} {Pf : Fns} (X : K.In h) (G : h.Ns mainGlobals mg) (c : hd.Says w h K) (F : FunD K "with_rule" "with_rule" (defArgs (top 27)) (defBody (top 27)) (defScope (top 27)) [] [("rank", .non)] (fAd K ("with_rule", none)) fd)
    (ok : FnOk P w K mg base (L2.CX P w) k ((fixOf K).fa 15) fd ["table", "rule", "rank"] (spD (fixOf K) 3 (Pf.S 15))) : TpK (fixOf K) P w K mg base k Pf 15 "with_rule" ["table", "rule", "rank"] 2 ["rank"] [.non] := by
  obtain ⟨dsv, hv, hb⟩ := FunD.binds0 (ps := ["table", "rule", "rank"]) F 2 (by simp) rfl fun D doc pm an cdv ct us ks hl hk => match us, ks, hl, hk with | [_, _], [_], _, _ => ⟨_, _, _, _, _, _, rfl, rfl, rfl⟩
  exact ⟨⟨fd, ⟨ok, glo_ok X G (c.fact 30), F.kp⟩, ⟨_, dsv, hb, hv, fun φ G => iss_dv (K := K) φ G (ds := [.non]) rfl⟩, FunD.kbn F 2 fun kV doc pm an cdv ct us ws hl hw => match us, ws, hl, hw with | [_, _], [_], _, _ => rfl⟩, rfl, rfl⟩
theorem hd__law_heard {fd : FuncData} (c : hd.Says w h K) (X : K.In h) (G : h.Ns mainGlobals mg) (F : FunD K "_law_heard" "_law_heard" (defArgs (top 45)) (defBody (top 45)) (defScope (top 45)) [] [] (fAd K ("_law_heard", none)) fd) : HeardD (fixOf K) K mg "_law_heard" 1 [103, 97, 118, 101] [78, 111, 116, 85, 115, 97, 98, 108, 101] "word" "at" :=
  heardD_of (ex := e_NotUsable) (a := "_law_ask") (en := "e") X G tx_NotUsable (c.exc 1) (ba (ba (ba (exs_ c)).2).2).1 (c.fact 58) rfl rfl F (glo_ok X G (c.fact 47)) (bd__law_heard F) ⟨rfl, rfl, rfl, by decide +kernel, rfl, by decide +kernel, by decide +kernel⟩ rfl (by decide +kernel) (by decide +kernel) (by decide +kernel) (by decide +kernel) (by decide +kernel) (by decide +kernel) (by decide +kernel) (by decide +kernel) (by decide +kernel) (by decide +kernel) (by decide +kernel) (fun _ => rfl) (fun _ => rfl)
/-- every def, n levels deep -/
def Lv (P : Program) (w : World) (K : PySem.W.Frag) (mg : Str → Option Value) (base : Heap) (n : Nat) : Prop := ∀ (i : Nat) (d : He.DefD) (ps : List Str), fn[i]? = some d → pss[i]? = some ps →
  ∃ fd, FunD K d.name d.qual d.params d.body d.scope (d.dvs K) (d.kws K) (fAd K d.at_) fd ∧ FnOk P w K mg base (L2.CX P w) (3 * n) ((fixOf K).fa i) fd ps (spD (fixOf K) ps.length ((bk.Pn un n).S i))
theorem tp_ (c : hd.Says w h K) (X : K.In h) (G : h.Ns mainGlobals mg) (l : Lv P w K mg base n) : Tp (fixOf K) P w K mg base (3 * n) (bk.Pn un n) tb gt where
  hK := rfl
  bl := bl_ c X G
  fn := by
    intro i x ps e hx
    match i, e with
    | 0, e => cases e; obtain ⟨fd, F, ok⟩ := l 0 _ _ rfl rfl; exact ⟨fd, ⟨ok, glo_ok X G (c.fact 15), F.kp⟩, bd_is_integer F⟩
    | 1, e => cases e; obtain ⟨fd, F, ok⟩ := l 1 _ _ rfl rfl; exact ⟨fd, ⟨ok, glo_ok X G (c.fact 16), F.kp⟩, bd_is_number F⟩
    | 2, e => cases e; obtain ⟨fd, F, ok⟩ := l 2 _ _ rfl rfl; exact ⟨fd, ⟨ok, glo_ok X G (c.fact 17), F.kp⟩, bd_is_text F⟩
    | 3, e => cases e; obtain ⟨fd, F, ok⟩ := l 3 _ _ rfl rfl; exact ⟨fd, ⟨ok, glo_ok X G (c.fact 18), F.kp⟩, bd_is_letter F⟩
    | 4, e => cases e; obtain ⟨fd, F, ok⟩ := l 4 _ _ rfl rfl; exact ⟨fd, ⟨ok, glo_ok X G (c.fact 19), F.kp⟩, bd_is_piece F⟩
    | 5, e => cases e; obtain ⟨fd, F, ok⟩ := l 5 _ _ rfl rfl; exact ⟨fd, ⟨ok, glo_ok X G (c.fact 20), F.kp⟩, bd_is_row F⟩
    | 6, e => cases e; obtain ⟨fd, F, ok⟩ := l 6 _ _ rfl rfl; exact ⟨fd, ⟨ok, glo_ok X G (c.fact 21), F.kp⟩, bd_is_rule F⟩
    | 7, e => cases e; obtain ⟨fd, F, ok⟩ := l 7 _ _ rfl rfl; exact ⟨fd, ⟨ok, glo_ok X G (c.fact 22), F.kp⟩, bd_is_manner F⟩
    | 8, e => cases e; obtain ⟨fd, F, ok⟩ := l 8 _ _ rfl rfl; exact ⟨fd, ⟨ok, glo_ok X G (c.fact 23), F.kp⟩, bd_are_letters F⟩
    | 9, e => cases e; obtain ⟨fd, F, ok⟩ := l 9 _ _ rfl rfl; exact ⟨fd, ⟨ok, glo_ok X G (c.fact 24), F.kp⟩, bd_is_text_of F⟩
    | 10, e => cases e; obtain ⟨fd, F, ok⟩ := l 10 _ _ rfl rfl; exact ⟨fd, ⟨ok, glo_ok X G (c.fact 25), F.kp⟩, bd_is_rule_of F⟩
    | 11, e => cases e; obtain ⟨fd, F, ok⟩ := l 11 _ _ rfl rfl; exact ⟨fd, ⟨ok, glo_ok X G (c.fact 26), F.kp⟩, bd_rules_fault F⟩
    | 12, e => cases e; obtain ⟨fd, F, ok⟩ := l 12 _ _ rfl rfl; exact ⟨fd, ⟨ok, glo_ok X G (c.fact 27), F.kp⟩, bd_table_fault F⟩
    | 13, e => cases e; obtain ⟨fd, F, ok⟩ := l 13 _ _ rfl rfl; exact ⟨fd, ⟨ok, glo_ok X G (c.fact 28), F.kp⟩, bd_require_usable F⟩
    | 14, e => cases e; obtain ⟨fd, F, ok⟩ := l 14 _ _ rfl rfl; exact ⟨fd, ⟨ok, glo_ok X G (c.fact 29), F.kp⟩, bd_lets_table F⟩
    | 15, e => cases e; exact absurd rfl hx
    | 16, e => cases e; obtain ⟨fd, F, ok⟩ := l 16 _ _ rfl rfl; exact ⟨fd, ⟨ok, glo_ok X G (c.fact 31), F.kp⟩, bd_without_rule F⟩
    | 17, e => cases e; obtain ⟨fd, F, ok⟩ := l 17 _ _ rfl rfl; exact ⟨fd, ⟨ok, glo_ok X G (c.fact 32), F.kp⟩, bd_exchanged F⟩
    | 18, e => cases e; obtain ⟨fd, F, ok⟩ := l 18 _ _ rfl rfl; exact ⟨fd, ⟨ok, glo_ok X G (c.fact 33), F.kp⟩, bd_with_manner F⟩
    | 19, e => cases e; obtain ⟨fd, F, ok⟩ := l 19 _ _ rfl rfl; exact ⟨fd, ⟨ok, glo_ok X G (c.fact 34), F.kp⟩, bd_with_letters F⟩
    | 20, e => cases e; obtain ⟨fd, F, ok⟩ := l 20 _ _ rfl rfl; exact ⟨fd, ⟨ok, glo_ok X G (c.fact 35), F.kp⟩, bd_first_rules F⟩
    | 21, e => cases e; obtain ⟨fd, F, ok⟩ := l 21 _ _ rfl rfl; exact ⟨fd, ⟨ok, glo_ok X G (c.fact 36), F.kp⟩, bd_are_names_for F⟩
    | 22, e => cases e; obtain ⟨fd, F, ok⟩ := l 22 _ _ rfl rfl; exact ⟨fd, ⟨ok, glo_ok X G (c.fact 37), F.kp⟩, bd_renamed F⟩
    | 23, e => cases e; obtain ⟨fd, F, ok⟩ := l 23 _ _ rfl rfl; exact ⟨fd, ⟨ok, glo_ok X G (c.fact 38), F.kp⟩, bd_mirrored F⟩
    | 24, e => cases e; obtain ⟨fd, F, ok⟩ := l 24 _ _ rfl rfl; exact ⟨fd, ⟨ok, glo_ok X G (c.fact 39), F.kp⟩, bd__law_feed F⟩
    | 25, e => cases e; obtain ⟨fd, F, ok⟩ := l 25 _ _ rfl rfl; exact ⟨fd, ⟨ok, glo_ok X G (c.fact 40), F.kp⟩, bd__law_draw F⟩
    | 26, e => cases e; obtain ⟨fd, F, ok⟩ := l 26 _ _ rfl rfl; exact ⟨fd, ⟨ok, glo_ok X G (c.fact 41), F.kp⟩, bd__law_pick F⟩
    | 27, e => cases e; obtain ⟨fd, F, ok⟩ := l 27 _ _ rfl rfl; exact ⟨fd, ⟨ok, glo_ok X G (c.fact 42), F.kp⟩, bd__law_letters F⟩
    | 28, e => cases e; obtain ⟨fd, F, ok⟩ := l 28 _ _ rfl rfl; exact ⟨fd, ⟨ok, glo_ok X G (c.fact 43), F.kp⟩, bd__law_piece F⟩
    | 29, e => cases e; obtain ⟨fd, F, ok⟩ := l 29 _ _ rfl rfl; exact ⟨fd, ⟨ok, glo_ok X G (c.fact 44), F.kp⟩, bd__law_rules F⟩
    | 30, e => cases e; obtain ⟨fd, F, ok⟩ := l 30 _ _ rfl rfl; exact ⟨fd, ⟨ok, glo_ok X G (c.fact 45), F.kp⟩, bd__law_triple F⟩
    | 31, e => cases e; obtain ⟨fd, F, ok⟩ := l 31 _ _ rfl rfl; exact ⟨fd, ⟨ok, glo_ok X G (c.fact 46), F.kp⟩, bd__law_same F⟩
    | 32, e => cases e; exact absurd rfl hx
    | 33, e => cases e; obtain ⟨fd, F, ok⟩ := l 33 _ _ rfl rfl; exact ⟨fd, ⟨ok, glo_ok X G (c.fact 48), F.kp⟩, bd__law_no F⟩
    | 34, e => cases e; obtain ⟨fd, F, ok⟩ := l 34 _ _ rfl rfl; exact ⟨fd, ⟨ok, glo_ok X G (c.fact 49), F.kp⟩, bd__law_new_rule F⟩
    | 35, e => cases e; obtain ⟨fd, F, ok⟩ := l 35 _ _ rfl rfl; exact ⟨fd, ⟨ok, glo_ok X G (c.fact 50), F.kp⟩, bd__law_put F⟩
    | 36, e => cases e; obtain ⟨fd, F, ok⟩ := l 36 _ _ rfl rfl; exact ⟨fd, ⟨ok, glo_ok X G (c.fact 51), F.kp⟩, bd__law_changed F⟩
    | 37, e => cases e; obtain ⟨fd, F, ok⟩ := l 37 _ _ rfl rfl; exact ⟨fd, ⟨ok, glo_ok X G (c.fact 52), F.kp⟩, bd__law_undone F⟩
    | 38, e => cases e; obtain ⟨fd, F, ok⟩ := l 38 _ _ rfl rfl; exact ⟨fd, ⟨ok, glo_ok X G (c.fact 53), F.kp⟩, bd__law_filled F⟩
    | 39, e => cases e; obtain ⟨fd, F, ok⟩ := l 39 _ _ rfl rfl; exact ⟨fd, ⟨ok, glo_ok X G (c.fact 54), F.kp⟩, bd__law_through F⟩
    | 40, e => cases e; obtain ⟨fd, F, ok⟩ := l 40 _ _ rfl rfl; exact ⟨fd, ⟨ok, glo_ok X G (c.fact 55), F.kp⟩, bd__law_back F⟩
    | 41, e => cases e; obtain ⟨fd, F, ok⟩ := l 41 _ _ rfl rfl; exact ⟨fd, ⟨ok, glo_ok X G (c.fact 56), F.kp⟩, bd_law F⟩
    | _ + 42, e => cases e
  gs := by
    intro i x d e
    match i, e with
    | 0, e => cases e; exact ⟨(bk.G_eq un n 0).trans rfl, gs_str X G (c.fact 60) (by decide +kernel)⟩
    | 1, e => cases e; exact ⟨(bk.G_eq un n 1).trans rfl, gs_tup rfl X G (c.fact 61) (ba (ba (ba (ba (exs_ c)).2).2).2).1 (by decide +kernel)⟩
    | _ + 2, e => cases e
theorem lv_ (hP : P = PySem.Challenge.pw_paircuts_k11_whole_changes_there_and_bac) (c : hd.Says w h K) (X : K.In h) (G : h.Ns mainGlobals mg) (hT : ∀ p ∈ tf, TabB base mg (cT K p).1 (cT K p).2) : ∀ n, Lv P w K mg base n := by
  subst hP
  intro n
  induction n with
  | zero =>
    intro i d ps hi hp
    obtain ⟨fd, F⟩ := c.def_ i hi
    exact ⟨fd, F, lvl0⟩
  | succ n ih =>
    have T := tp_ c X G ih
    have TX_InvalidPaper_ := TX_InvalidPaper c X G
    have TX_NotUsable_ := TX_NotUsable c X G
    have TD_MIRRORS_ := TD_MIRRORS (Pf := bk.Pn un n) (congrFun (bk.W_eq un n) 0) c X G
    have TK_with_rule_ := (by obtain ⟨fd, F, ok⟩ := ih 15 _ _ rfl rfl; exact tk_with_rule X G c F ok : TpK (fixOf K) PySem.Challenge.pw_paircuts_k11_whole_changes_there_and_bac w K mg base (3 * n) (bk.Pn un n) 15 "with_rule" ["table", "rule", "rank"] 2 ["rank"] [.non])
    have HD__law_heard_ := (by obtain ⟨fd, F⟩ := c.def_ 32; exact hd__law_heard c X G F : HeardD (fixOf K) K mg "_law_heard" 1 [103, 97, 118, 101] [78, 111, 116, 85, 115, 97, 98, 108, 101] "word" "at")
    have HT__law_heard_ := bk.T_of (u := un) (n := n) (j := 32) (c := 1) (gave := [103, 97, 118, 101]) (lit := [78, 111, 116, 85, 115, 97, 98, 108, 101]) rfl
    intro i d ps hi hp
    match i, hi, hp with
    | 0, hi, hp => cases hi; cases hp; obtain ⟨fd, F⟩ := c.def_ 0; exact ⟨fd, F, lvlS F sc_is_integer (rfl : bk.bs[0]? = some (1, n_is_integer.length, KB.b_is_integer)) fun A outer s H E hr => d_is_integer T hr⟩
    | 1, hi, hp => cases hi; cases hp; obtain ⟨fd, F⟩ := c.def_ 1; exact ⟨fd, F, lvlS F sc_is_number (rfl : bk.bs[1]? = some (1, n_is_number.length, (KB.b_is_number 0))) fun A outer s H E hr => d_is_number T hr⟩
    | 2, hi, hp => cases hi; cases hp; obtain ⟨fd, F⟩ := c.def_ 2; exact ⟨fd, F, lvlS F sc_is_text (rfl : bk.bs[2]? = some (1, n_is_text.length, (KB.b_is_text 0))) fun A outer s H E hr => d_is_text T hr⟩
    | 3, hi, hp => cases hi; cases hp; obtain ⟨fd, F⟩ := c.def_ 3; exact ⟨fd, F, lvlS F sc_is_letter (rfl : bk.bs[3]? = some (1, n_is_letter.length, (KB.b_is_letter 2))) fun A outer s H E hr => d_is_letter T hr⟩
    | 4, hi, hp => cases hi; cases hp; obtain ⟨fd, F⟩ := c.def_ 4; exact ⟨fd, F, lvlS F sc_is_piece (rfl : bk.bs[4]? = some (1, n_is_piece.length, (KB.b_is_piece 2))) fun A outer s H E hr => d_is_piece T hr⟩
    | 5, hi, hp => cases hi; cases hp; obtain ⟨fd, F⟩ := c.def_ 5; exact ⟨fd, F, lvlS F sc_is_row (rfl : bk.bs[5]? = some (1, n_is_row.length, (KB.b_is_row 4))) fun A outer s H E hr => d_is_row T hr⟩
    | 6, hi, hp => cases hi; cases hp; obtain ⟨fd, F⟩ := c.def_ 6; exact ⟨fd, F, lvlS F sc_is_rule (rfl : bk.bs[6]? = some (1, n_is_rule.length, (KB.b_is_rule 5))) fun A outer s H E hr => d_is_rule T hr⟩
    | 7, hi, hp => cases hi; cases hp; obtain ⟨fd, F⟩ := c.def_ 7; exact ⟨fd, F, lvlS F sc_is_manner (rfl : bk.bs[7]? = some (1, n_is_manner.length, (KB.b_is_manner 1))) fun A outer s H E hr => d_is_manner T hr⟩
    | 8, hi, hp => cases hi; cases hp; obtain ⟨fd, F⟩ := c.def_ 8; exact ⟨fd, F, lvlS F sc_are_letters (rfl : bk.bs[8]? = some (1, n_are_letters.length, (KB.b_are_letters 3))) fun A outer s H E hr => d_are_letters T hr⟩
    | 9, hi, hp => cases hi; cases hp; obtain ⟨fd, F⟩ := c.def_ 9; exact ⟨fd, F, lvlS F sc_is_text_of (rfl : bk.bs[9]? = some (1, n_is_text_of.length, (KB.b_is_text_of 2))) fun A outer s H E hr => d_is_text_of T hr⟩
    | 10, hi, hp => cases hi; cases hp; obtain ⟨fd, F⟩ := c.def_ 10; exact ⟨fd, F, lvlS F sc_is_rule_of (rfl : bk.bs[10]? = some (1, n_is_rule_of.length, (KB.b_is_rule_of 6 9))) fun A outer s H E hr => d_is_rule_of T hr⟩
    | 11, hi, hp => cases hi; cases hp; obtain ⟨fd, F⟩ := c.def_ 11; exact ⟨fd, F, lvlS F sc_rules_fault (rfl : bk.bs[11]? = some (1, n_rules_fault.length, (KB.b_rules_fault 10))) fun A outer s H E hr => d_rules_fault T hr⟩
    | 12, hi, hp => cases hi; cases hp; obtain ⟨fd, F⟩ := c.def_ 12; exact ⟨fd, F, lvlS F sc_table_fault (rfl : bk.bs[12]? = some (1, n_table_fault.length, (KB.b_table_fault 7 11 8))) fun A outer s H E hr => d_table_fault T hr⟩
    | 13, hi, hp => cases hi; cases hp; obtain ⟨fd, F⟩ := c.def_ 13; exact ⟨fd, F, lvlS F sc_require_usable (rfl : bk.bs[13]? = some (1, n_require_usable.length, (KB.b_require_usable 1))) fun A outer s H E hr => d_require_usable T TX_NotUsable_ hr⟩
    | 14, hi, hp => cases hi; cases hp; obtain ⟨fd, F⟩ := c.def_ 14; exact ⟨fd, F, lvlS F sc_lets_table (rfl : bk.bs[14]? = some (1, n_lets_table.length, (KB.b_lets_table 0 12))) fun A outer s H E hr => d_lets_table T TX_InvalidPaper_ hr⟩
    | 15, hi, hp => cases hi; cases hp; obtain ⟨fd, F⟩ := c.def_ 15; exact ⟨fd, F, lvlS F sc_with_rule (rfl : bk.bs[15]? = some (1, n_with_rule.length, (KB.b_with_rule 1 13 10))) fun A outer s H E hr => d_with_rule T hr⟩
    | 16, hi, hp => cases hi; cases hp; obtain ⟨fd, F⟩ := c.def_ 16; exact ⟨fd, F, lvlS F sc_without_rule (rfl : bk.bs[16]? = some (1, n_without_rule.length, (KB.b_without_rule 1 13))) fun A outer s H E hr => d_without_rule T hr⟩
    | 17, hi, hp => cases hi; cases hp; obtain ⟨fd, F⟩ := c.def_ 17; exact ⟨fd, F, lvlS F sc_exchanged (rfl : bk.bs[17]? = some (1, n_exchanged.length, (KB.b_exchanged 1 13))) fun A outer s H E hr => d_exchanged T hr⟩
    | 18, hi, hp => cases hi; cases hp; obtain ⟨fd, F⟩ := c.def_ 18; exact ⟨fd, F, lvlS F sc_with_manner (rfl : bk.bs[18]? = some (1, n_with_manner.length, (KB.b_with_manner 7 13))) fun A outer s H E hr => d_with_manner T hr⟩
    | 19, hi, hp => cases hi; cases hp; obtain ⟨fd, F⟩ := c.def_ 19; exact ⟨fd, F, lvlS F sc_with_letters (rfl : bk.bs[19]? = some (1, n_with_letters.length, (KB.b_with_letters 8 13))) fun A outer s H E hr => d_with_letters T hr⟩
    | 20, hi, hp => cases hi; cases hp; obtain ⟨fd, F⟩ := c.def_ 20; exact ⟨fd, F, lvlS F sc_first_rules (rfl : bk.bs[20]? = some (1, n_first_rules.length, (KB.b_first_rules 1 13))) fun A outer s H E hr => d_first_rules T hr⟩
    | 21, hi, hp => cases hi; cases hp; obtain ⟨fd, F⟩ := c.def_ 21; exact ⟨fd, F, lvlS F sc_are_names_for (rfl : bk.bs[21]? = some (1, n_are_names_for.length, (KB.b_are_names_for 3))) fun A outer s H E hr => d_are_names_for T hr⟩
    | 22, hi, hp => cases hi; cases hp; obtain ⟨fd, F⟩ := c.def_ 22; exact ⟨fd, F, lvlS F sc_renamed (rfl : bk.bs[22]? = some (1, n_renamed.length, (KB.b_renamed 21 13))) fun A outer s H E hr => d_renamed T hr⟩
    | 23, hi, hp => cases hi; cases hp; obtain ⟨fd, F⟩ := c.def_ 23; exact ⟨fd, F, lvlS F sc_mirrored (rfl : bk.bs[23]? = some (1, n_mirrored.length, (KB.b_mirrored 0 13))) fun A outer s H E hr => d_mirrored T TD_MIRRORS_ hr⟩
    | 24, hi, hp => cases hi; cases hp; obtain ⟨fd, F⟩ := c.def_ 24; exact ⟨fd, F, lvlS F sc__law_feed (rfl : bk.bs[24]? = some (0, n__law_feed.length, KB.b_law_feed)) fun A outer s H E hr => d__law_feed T hr⟩
    | 25, hi, hp => cases hi; cases hp; obtain ⟨fd, F⟩ := c.def_ 25; exact ⟨fd, F, lvlS F sc__law_draw (rfl : bk.bs[25]? = some (2, n__law_draw.length, KB.b_law_draw)) fun A outer s H E hr => d__law_draw T hr⟩
    | 26, hi, hp => cases hi; cases hp; obtain ⟨fd, F⟩ := c.def_ 26; exact ⟨fd, F, lvlS F sc__law_pick (rfl : bk.bs[26]? = some (2, n__law_pick.length, (KB.b_law_pick 25))) fun A outer s H E hr => d__law_pick T hr⟩
    | 27, hi, hp => cases hi; cases hp; obtain ⟨fd, F⟩ := c.def_ 27; exact ⟨fd, F, lvlS F sc__law_letters (rfl : bk.bs[27]? = some (2, n__law_letters.length, (KB.b_law_letters 25 26))) fun A outer s H E hr => d__law_letters T hr⟩
    | 28, hi, hp => cases hi; cases hp; obtain ⟨fd, F⟩ := c.def_ 28; exact ⟨fd, F, lvlS F sc__law_piece (rfl : bk.bs[28]? = some (2, n__law_piece.length, (KB.b_law_piece 25 26))) fun A outer s H E hr => d__law_piece T hr⟩
    | 29, hi, hp => cases hi; cases hp; obtain ⟨fd, F⟩ := c.def_ 29; exact ⟨fd, F, lvlS F sc__law_rules (rfl : bk.bs[29]? = some (2, n__law_rules.length, (KB.b_law_rules 25 28 26))) fun A outer s H E hr => d__law_rules T hr⟩
    | 30, hi, hp => cases hi; cases hp; obtain ⟨fd, F⟩ := c.def_ 30; exact ⟨fd, F, lvlS F sc__law_triple (rfl : bk.bs[30]? = some (2, n__law_triple.length, (KB.b_law_triple 29 27 26))) fun A outer s H E hr => d__law_triple T hr⟩
    | 31, hi, hp => cases hi; cases hp; obtain ⟨fd, F⟩ := c.def_ 31; exact ⟨fd, F, lvlS F sc__law_same (rfl : bk.bs[31]? = some (1, n__law_same.length, (KB.b_law_same 31))) fun A outer s H E hr => d__law_same T hr⟩
    | 32, hi, hp => cases hi; cases hp; obtain ⟨fd, F⟩ := c.def_ 32; exact ⟨fd, F, lvlN (rfl : bk.bs[32]? = some (0, 0, .cons .brk .nil))⟩
    | 33, hi, hp => cases hi; cases hp; obtain ⟨fd, F⟩ := c.def_ 33; exact ⟨fd, F, lvlS F sc__law_no (rfl : bk.bs[33]? = some (1, n__law_no.length, KB.b_law_no)) fun A outer s H E hr => d__law_no T hr⟩
    | 34, hi, hp => cases hi; cases hp; obtain ⟨fd, F⟩ := c.def_ 34; exact ⟨fd, F, lvlS F sc__law_new_rule (rfl : bk.bs[34]? = some (2, n__law_new_rule.length, (KB.b_law_new_rule 28 26 25))) fun A outer s H E hr => d__law_new_rule T hr⟩
    | 35, hi, hp => cases hi; cases hp; obtain ⟨fd, F⟩ := c.def_ 35; exact ⟨fd, F, lvlS F sc__law_put (rfl : bk.bs[35]? = some (1, n__law_put.length, (KB.b_law_put 33))) fun A outer s H E hr => d__law_put T hr⟩
    | 36, hi, hp => cases hi; cases hp; obtain ⟨fd, F⟩ := c.def_ 36; have TL := tpl_of (Z := fixOf K) (p := ("_law_changed", none)) (mg := mg) (ba (exs_ c)).1 (by decide +kernel) hT F rfl; exact ⟨fd, F, lvlS F sc__law_changed (rfl : bk.bs[36]? = some (2, n__law_changed.length, (KB.b_law_changed 20 32 33 19 25 26 18 17 16 35 15 34))) fun A outer s H E hr => d__law_changed T HD__law_heard_ HT__law_heard_ TL TK_with_rule_ hr⟩
    | 37, hi, hp => cases hi; cases hp; obtain ⟨fd, F⟩ := c.def_ 37; exact ⟨fd, F, lvlS F sc__law_undone (rfl : bk.bs[37]? = some (1, n__law_undone.length, (KB.b_law_undone 31 17 16 15))) fun A outer s H E hr => d__law_undone T TK_with_rule_ hr⟩
    | 38, hi, hp => cases hi; cases hp; obtain ⟨fd, F⟩ := c.def_ 38; exact ⟨fd, F, lvlS F sc__law_filled (rfl : bk.bs[38]? = some (1, n__law_filled.length, (KB.b_law_filled 31 20 15))) fun A outer s H E hr => d__law_filled T TK_with_rule_ hr⟩
    | 39, hi, hp => cases hi; cases hp; obtain ⟨fd, F⟩ := c.def_ 39; exact ⟨fd, F, lvlS F sc__law_through (rfl : bk.bs[39]? = some (1, n__law_through.length, (KB.b_law_through 23 15 31 22))) fun A outer s H E hr => d__law_through T TK_with_rule_ hr⟩
    | 40, hi, hp => cases hi; cases hp; obtain ⟨fd, F⟩ := c.def_ 40; exact ⟨fd, F, lvlS F sc__law_back (rfl : bk.bs[40]? = some (2, n__law_back.length, (KB.b_law_back 25 37 35 39 15 16 31 34 18 26 14 38))) fun A outer s H E hr => d__law_back T TK_with_rule_ hr⟩
    | 41, hi, hp => cases hi; cases hp; obtain ⟨fd, F⟩ := c.def_ 41; exact ⟨fd, F, lvlS F sc_law (rfl : bk.bs[41]? = some (0, n_law.length, (KB.b_law 40 25 31 36 30 24))) fun A outer s H E hr => d_law T hr⟩
    | _ + 42, hi, hp => cases hi
end
end K11
end
set_option Elab.async false
set_option linter.all false
set_option maxRecDepth 100000
set_option maxHeartbeats 4000000
open PySem PySem.W PySem.Calls PyProof.Rows
theorem PySem.Challenge.cw_paircuts_k11_whole_changes_there_and_bac_holds : PySem.Challenge.rw_paircuts_k11_whole_changes_there_and_bac.Holds := by
  w_on; o_law
  refine HandSHeadRun.head_any (r := OpenLaw.row PySem.Challenge.rw_paircuts_k11_whole_changes_there_and_bac) (q := view (OpenLaw.row PySem.Challenge.rw_paircuts_k11_whole_changes_there_and_bac).prog [54]) (H := K11.hk) (ob := K11.ob) (M := 4000) (loose := K11.loose) (d := HandSHeadRun.topDef (OpenLaw.row PySem.Challenge.rw_paircuts_k11_whole_changes_there_and_bac).prog 54) (kwd := []) K11.ob_eq
    (by kernel_rfl) (fun s => by kernel_rfl) (fun w => K11.run w) (by kernel_rfl) (by kernel_rfl) (by kernel_rfl) (by rfl) (by first | assumption | decide +kernel) (by decide +kernel) ⟨rfl, rfl, rfl, rfl, rfl, by decide +kernel⟩ ?hw ?hc
  case hw => w_witness2
  case hc =>
    refine LamX.walk_ofTsE (l := PySem.Challenge.rw_paircuts_k11_whole_changes_there_and_bac) (n := 63) (k := 3 * K11.depth) (x := "_law_script") (CX := L2.CX (PySem.Challenge.rw_paircuts_k11_whole_changes_there_and_bac).prog) rfl (by decide) (by kernel_rfl) ⟨rfl, by decide, by decide⟩ ?F (fun _ _ _ _ _ ⟨_, _, _, _, _, _, _, _, _, _, _, _, z⟩ => z)
    intro w mg fa h Y G hmg0
    obtain ⟨K, X, c⟩ := Y
    have hmg : mg ("law" : PySem.Str) = some (.ref fa) := by
      have e : (HandSHeadRun.topDef (OpenLaw.row PySem.Challenge.rw_paircuts_k11_whole_changes_there_and_bac).prog 54).name = ("law" : PySem.Str) := by kernel_rfl
      rw [← e]
      exact hmg0
    obtain ⟨fd, F⟩ := c.def_ 41
    have e := hmg.symm.trans (He.glo_ok X G (c.fact 56))
    cases e
    refine ⟨K, X, DL.lawAt (Z := K11.fixOf K) (d := K11.hd) (S := (K11.bk.Pn K11.un K11.depth).S 41) c X rfl rfl (fun s v => L2.FunD.bindsA (ps := ["_law_script"]) F (fun _ _ _ _ _ _ us hl => match us, hl with | [_], _ => rfl) s [v] rfl) (fun base h1 h2 h3 => ?_) K11.plain⟩
    obtain ⟨fd2, F2, ok⟩ := K11.lv_ (base := base) rfl c X G h3 K11.depth 41 _ _ rfl rfl
    obtain ⟨_, _, _, _, _, _, _, _, _, _, rfl, l1, _, _⟩ := F.ex
    obtain ⟨_, _, _, _, _, _, _, _, _, _, rfl, l2, _, _⟩ := F2.ex
    rw [l1] at l2
    cases l2
    exact ok
