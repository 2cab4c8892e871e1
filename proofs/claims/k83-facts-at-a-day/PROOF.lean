import PyProof.Rows.All
import Wide.All
import OpenK.AllK
import Wide.FinOn
import HandS.ForMost
import HandS.Flow
import HandS.Style
import HandS.StrMore
import HandS.StrSplit
import HandS.RaiseMore
import HandS.IsInst
import HandS.Codes
import HandS.TupAny
import HandS.Conv
import HandS.DictComp
import HandS.Deep
import KE.KeyNested
import KE.KDictKeyed
import KE.KSortKey
import KE.KSortTup
import KE.LtData
import KE.KSortTupAny
import HandS.Sort
import HandS.SortOrd
import HandS.SortKw
import HandS.SortRule
import PySem.Challenge.RW_rulemill_k83_facts_at_a_day
set_option Elab.async false
set_option linter.all false
set_option maxRecDepth 100000
/-! DSem: what Python's operations do to plain trees (no heap). -/
namespace DL

/-- the largest length of a list, a tuple, a text -/
abbrev SZ : Nat := 16777216

/-- a value as a tree: texts by their codes; tok: a drawing pool, whose content is not told; scr: the script; dit: a dict whose keys are tuples -/
inductive D where
  | non | bl (b : Bool) | int (i : Int) | str (s : List Nat)
  | tup (xs : List D) | lst (xs : List D) | dic (kvs : List (D × D)) | tok | scr (xs : List D) | dit (kvs : List (D × D))
instance : Inhabited D := ⟨.non⟩

/-- no list and no dict at the top -/
def D.flat : D → Bool
  | .lst _ => false
  | .dic _ => false
  | .dit _ => false
  | _ => true
/-- no list and no dict anywhere -/
inductive Imm : D → Prop
  | non : Imm .non
  | bl (b) : Imm (.bl b)
  | int (i) : Imm (.int i)
  | str (s) : Imm (.str s)
  | tup {xs} : (∀ x ∈ xs, Imm x) → Imm (.tup xs)

/-! ### places -/
def ixN (n : Nat) (i : Int) : Option Nat := if 0 ≤ i then (if i < n then some i.toNat else none) else if -(n : Int) ≤ i then some (i + n).toNat else none
def atD {α : Type} (xs : List α) (i : Int) : Option α := (ixN xs.length i).bind fun j => xs[j]?
/-- a slice's bound, clipped -/
def ixB (n d : Nat) : Option Int → Nat
  | none => d
  | some v => if v < 0 then (v + n).toNat else min v.toNat n
def cutD {α : Type} (xs : List α) (lo hi : Option Int) : List α := (xs.drop (ixB xs.length 0 lo)).take (ixB xs.length xs.length hi - ixB xs.length 0 lo)

/-! ### == -/
mutual
def D.eqv : D → D → Bool
  | .non, .non => true
  | .bl a, .bl b => a == b
  | .bl a, .int j => (if a then 1 else 0) == j
  | .int i, .bl b => i == (if b then 1 else 0)
  | .int i, .int j => i == j
  | .str x, .str y => x == y
  | .lst xs, .lst ys => D.eqvs xs ys
  | .tup xs, .tup ys => D.eqvs xs ys
  | _, _ => false
def D.eqvs : List D → List D → Bool
  | [], [] => true
  | x :: xs, y :: ys => D.eqv x y && D.eqvs xs ys
  | _, _ => false
end
mutual
/-- what == may be asked of: no dict, no pool, every text plain; depth at most n -/
def D.plain : Nat → D → Bool
  | _, .non => true
  | _, .bl _ => true
  | _, .int _ => true
  | _, .str s => s.all fun c => decide (c < 1114112)
  | 0, _ => false
  | n + 1, .tup xs => D.plains n xs
  | n + 1, .lst xs => D.plains n xs
  | _, _ => false
def D.plains : Nat → List D → Bool
  | _, [] => true
  | n, x :: xs => D.plain n x && D.plains n xs
end

/-! ### a def's local names -/
/-- no: not known; sh: may be kept and handed on; bo: a caller's (its list or dict is only read); ow: this def's own list or dict, at the address a -/
inductive Cel where
  | no | sh (d : D) | bo (d : D) | ow (a : Nat) (d : D)
abbrev Gam := List Cel
abbrev WE := Gam → (D → Prop) → Prop
abbrev WT := Gam → (Bool → Prop) → Prop
abbrev WA := Gam → (List D → Prop) → Prop
abbrev WG := D → Gam → (Gam → Prop) → Prop
abbrev WI := Gam → (List D → Prop) → Prop
structure DEnds where
  nx : Gam → Prop
  rt : D → Prop
  bk : Gam → Prop := fun _ => False
  ct : Gam → Prop := fun _ => False
abbrev WS := DEnds → Gam → Prop
/-- what a def asks and gives -/
structure Spec where
  pre : List D → Prop
  post : List D → D → Prop

/-! ### expressions -/
def cellSh : Option Cel → (D → Prop) → Prop
  | some (.sh d), k => k d
  | some (.bo d), k => d.flat = true ∧ k d
  | _, _ => False
def cellVw : Option Cel → (D → Prop) → Prop
  | some (.sh d), k => k d
  | some (.bo d), k => k d
  | some (.ow _ d), k => k d
  | _, _ => False
def cellOw : Option Cel → (Nat → D → Prop) → Prop
  | some (.ow a d), k => k a d
  | _, _ => False
def wVar (i : Nat) : WE := fun Γ k => cellSh Γ[i]? k
def wView (i : Nat) : WE := fun Γ k => cellVw Γ[i]? k
def wOwn (i : Nat) : WE := fun Γ k => cellOw Γ[i]? fun _ d => k d
def wC (d : D) : WE := fun _ k => k d
def wFlat (w : WE) : WE := fun Γ k => w Γ fun d => d.flat = true ∧ k d

/-- a new dict -/
def wNewD : WE := fun _ k => k (.dic [])
def wNewT : WE := fun _ k => k (.dit [])
def kInt : D → (Int → Prop) → Prop
  | .int i, k => k i
  | _, _ => False
def kStr : D → (List Nat → Prop) → Prop
  | .str i, k => k i
  | _, _ => False
def kBl : D → (Bool → Prop) → Prop
  | .bl i, k => k i
  | _, _ => False
def kLst : D → (List D → Prop) → Prop
  | .lst i, k => k i
  | _, _ => False
def kTup : D → (List D → Prop) → Prop
  | .tup i, k => k i
  | _, _ => False
def kDit : D → (List (D × D) → Prop) → Prop
  | .dit i, k => k i
  | _, _ => False
def kDic : D → (List (D × D) → Prop) → Prop
  | .dic i, k => k i
  | _, _ => False

abbrev Op2 := D → D → (D → Prop) → Prop
def wOp (o : Op2) (a b : WE) : WE := fun Γ k => a Γ fun x => b Γ fun y => o x y k
def oAdd : Op2 := fun x y k => match x, y with
  | .int i, .int j => k (.int (i + j))
  | .str s, .str t => s.length + t.length ≤ SZ ∧ k (.str (s ++ t))
  | .tup s, .tup t => s.length + t.length ≤ SZ ∧ k (.tup (s ++ t))
  | .lst s, .lst t => s.length + t.length ≤ SZ ∧ k (.lst (s ++ t))
  | _, _ => False
def oSub : Op2 := fun x y k => kInt x fun i => kInt y fun j => k (.int (i - j))
def SmallF (i j : Int) : Prop := (-(2 ^ 64) < i ∧ i < 2 ^ 64) ∨ (-(2 ^ 64) < j ∧ j < 2 ^ 64)
def oMul : Op2 := fun x y k => match x, y with
  | .int i, .int j => SmallF i j ∧ k (.int (i * j))
  | .str s, .int n => (s.length * n.toNat ≤ SZ ∧ n < 2 ^ 63 ∧ -(2 ^ 63) ≤ n) ∧ k (.str (List.replicate n.toNat s).flatten)
  | _, _ => False
def oFdiv : Op2 := fun x y k => kInt x fun i => kInt y fun j => (0 < j ∧ j < 1073741824) ∧ k (.int (i / j))
def oMod : Op2 := fun x y k => kInt x fun i => kInt y fun j => 0 < j ∧ k (.int (i % j))
def oPow : Op2 := fun x y k => kInt x fun i => kInt y fun j => (0 ≤ j ∧ j ≤ 1000000 ∧ i.natAbs < 2 ^ 64) ∧ k (.int (i ^ j.toNat))
def wNeg (a : WE) : WE := fun Γ k => a Γ fun x => kInt x fun i => k (.int (-i))

/-- None, truth values, ints, texts -/
def D.scal : D → Bool
  | .non => true
  | .bl _ => true
  | .int _ => true
  | .str _ => true
  | _ => false
/-- scalars that == tells apart as trees -/
def scal2 : D → D → Bool
  | .bl _, .int _ => false
  | .int _, .bl _ => false
  | x, y => x.scal && y.scal
def plain2 (x y : D) : Prop := scal2 x y = true ∨ (x.plain 60 = true ∧ y.plain 60 = true)
def oEq : Op2 := fun x y k => plain2 x y ∧ k (.bl (x.eqv y))
def oNe : Op2 := fun x y k => plain2 x y ∧ k (.bl (!x.eqv y))
/-- order of tuples of ints -/
def lexI : List Int → List Int → Bool
  | [], [] => false
  | [], _ :: _ => true
  | _ :: _, [] => false
  | x :: xs, y :: ys => if x = y then lexI xs ys else decide (x < y)
def intsD : List D → Option (List Int)
  | [] => some []
  | .int b :: r => (intsD r).map (b :: ·)
  | _ => none
/-- order of ints, of texts, of tuples of ints -/
def oLt : Op2 := fun x y k => match x, y with
  | .int i, .int j => k (.bl (decide (i < j)))
  | .str i, .str j => k (.bl (decide (i < j)))
  | .tup s, .tup t => ∃ is js, intsD s = some is ∧ intsD t = some js ∧ k (.bl (lexI is js))
  | _, _ => False
def oLe : Op2 := fun x y k => match x, y with
  | .int i, .int j => k (.bl (decide (i ≤ j)))
  | .str i, .str j => k (.bl (!decide (j < i)))
  | _, _ => False
def oGt : Op2 := fun x y k => match x, y with
  | .int i, .int j => k (.bl (decide (j < i)))
  | .str i, .str j => k (.bl (decide (j < i)))
  | _, _ => False
def oGe : Op2 := fun x y k => match x, y with
  | .int i, .int j => k (.bl (decide (j ≤ i)))
  | .str i, .str j => k (.bl (!decide (i < j)))
  | _, _ => False
def D.isNon : D → Bool
  | .non => true
  | _ => false
def D.isBl : D → Bool → Bool
  | .bl a, b => a == b
  | _, _ => false
def wIsN (a : WE) : WE := fun Γ k => a Γ fun x => k (.bl x.isNon)
def wNotN (a : WE) : WE := fun Γ k => a Γ fun x => k (.bl (!x.isNon))
def wIsB (b : Bool) (a : WE) : WE := fun Γ k => a Γ fun x => k (.bl (x.isBl b))
/-- the value at a key -/
def look (kvs : List (D × D)) (q : D) : Option D := (kvs.find? fun p => p.1.eqv q).map (·.2)
def put (kvs : List (D × D)) (q v : D) : List (D × D) := if (look kvs q).isSome then kvs.map fun p => if p.1.eqv q then (p.1, v) else p else kvs ++ [(q, v)]
def drop (kvs : List (D × D)) (q : D) : List (D × D) := kvs.filter fun p => !p.1.eqv q
/-- int and text keys -/
def D.key : D → Bool
  | .int _ => true
  | .str _ => true
  | _ => false
mutual
/-- what a tuple key is made of: no truth value; depth at most n -/
def D.nb : Nat → D → Bool
  | _, .non => true
  | _, .int _ => true
  | _, .str _ => true
  | 0, _ => false
  | n + 1, .tup xs => D.nbs n xs
  | _, _ => false
def D.nbs : Nat → List D → Bool
  | _, [] => true
  | n, x :: xs => D.nb n x && D.nbs n xs
end
/-- a tuple key -/
def D.nkey : D → Bool
  | .tup xs => D.nbs 7 xs
  | _ => false
/-- part t of a text -/
def isPart (t : List Nat) : List Nat → Bool
  | [] => t.isEmpty
  | c :: s => t.isPrefixOf (c :: s) || isPart t s
def inD (x y : D) (k : Bool → Prop) : Prop := match y with
  | .lst ys => ((x.scal = true ∧ ys.all D.scal = true) ∨ (x.plain 60 = true ∧ D.plains 60 ys = true)) ∧ k (ys.any fun z => z.eqv x)
  | .tup ys => (x.scal = true ∧ ys.all D.scal = true) ∧ k (ys.any fun z => z.eqv x)
  | .dic kvs => x.key = true ∧ k (look kvs x).isSome
  | .dit kvs => x.nkey = true ∧ k (look kvs x).isSome
  | .str s => kStr x fun t => ∃ c, t = [c] ∧ k (decide (c ∈ s))
  | _ => False
def oIn : Op2 := fun x y k => inD x y fun b => k (.bl b)
def oNin : Op2 := fun x y k => inD x y fun b => k (.bl !b)

/-! tests -/
def wTest (a : WE) : WT := fun Γ k => a Γ fun x => kBl x k
def wAnd (a b : WT) : WT := fun Γ k => a Γ fun c => if c = true then b Γ k else k false
def wOr (a b : WT) : WT := fun Γ k => a Γ fun c => if c = true then k true else b Γ k
def wNot (a : WT) : WT := fun Γ k => a Γ fun c => k (!c)
/-- and, or, not as values: all but the last True or False -/
def wAndV (a b : WE) : WE := fun Γ k => a Γ fun x => kBl x fun c => if c = true then b Γ k else k (.bl false)
def wOrV (a b : WE) : WE := fun Γ k => a Γ fun x => kBl x fun c => if c = true then k (.bl true) else b Γ k
def wNotV (a : WE) : WE := fun Γ k => a Γ fun x => kBl x fun c => k (.bl (!c))
def wIf (t : WT) (a b : WE) : WE := fun Γ k => t Γ fun c => if c = true then a Γ k else b Γ k
/-- a < b < c -/
def wChain (o p : Op2) (a b c : WE) : WE := fun Γ k => a Γ fun x => b Γ fun y => o x y fun r => kBl r fun t => if t = true then c Γ fun z => p y z k else k (.bl false)

/-! arguments, displays, calls -/
def wNil : WA := fun _ k => k []
def wCons (a : WE) (r : WA) : WA := fun Γ k => a Γ fun x => r Γ fun xs => k (x :: xs)
def wTup (a : WA) : WE := fun Γ k => a Γ fun xs => xs.length ≤ SZ ∧ k (.tup xs)
def wLst (a : WA) : WE := fun Γ k => a Γ fun xs => xs.length ≤ SZ ∧ k (.lst xs)
def wCall (S : Spec) (a : WA) : WE := fun Γ k => a Γ fun xs => S.pre xs ∧ ∀ d, S.post xs d → k d
/-- a built-in function by what it does to its arguments -/
abbrev Fn := List D → (D → Prop) → Prop
def wFn (f : Fn) (a : WA) : WE := fun Γ k => a Γ fun xs => f xs k
def fn1 (f : D → (D → Prop) → Prop) : Fn := fun xs k => match xs with
  | [x] => f x k
  | _ => False
def fn2 (f : D → D → (D → Prop) → Prop) : Fn := fun xs k => match xs with
  | [x, y] => f x y k
  | _ => False
def fLen : Fn := fn1 fun x k => match x with
  | .str s => s.length ≤ SZ ∧ k (.int s.length)
  | .lst s => k (.int s.length)
  | .tup s => k (.int s.length)
  | .dic s => k (.int s.length)
  | .dit s => k (.int s.length)
  | .scr s => k (.int s.length)
  | _ => False
def fAbs : Fn := fn1 fun x k => kInt x fun i => k (.int (if i < 0 then -i else i))
def fMin2 : Fn := fn2 fun x y k => kInt x fun i => kInt y fun j => k (.int (if j < i then j else i))
def fMax2 : Fn := fn2 fun x y k => kInt x fun i => kInt y fun j => k (.int (if j > i then j else i))
def fInt : Fn := fn1 fun x k => match x with
  | .int i => k (.int i)
  | .bl b => k (.int (if b = true then 1 else 0))
  | _ => False
/-- the codes of a number's digits -/
def digs (i : Int) : List Nat := (toString i).toList.map Char.toNat
def fStr : Fn := fn1 fun x k => match x with
  | .int i => i.natAbs.log2 < 1920 ∧ k (.str (digs i))
  | .str s => k (.str s)
  | _ => False
def fList : Fn := fn1 fun x k => match x with
  | .lst s => k (.lst s)
  | .tup s => k (.lst s)
  | .dic s => s.length ≤ SZ ∧ k (.lst (s.map (·.1)))
  | _ => False
def fTuple : Fn := fn1 fun x k => match x with
  | .lst s => k (.tup s)
  | .tup s => k (.tup s)
  | _ => False
def fDict : Fn := fn1 fun x k => kDic x fun s => k (.dic s)
inductive Ty where
  | int | str | bool | list | tuple | dict
def D.isTy : D → Ty → Bool
  | .int _, .int => true
  | .bl _, .int => true
  | .bl _, .bool => true
  | .str _, .str => true
  | .lst _, .list => true
  | .tup _, .tuple => true
  | .dic _, .dict => true
  | .dit _, .dict => true
  | _, _ => false
/-- isinstance of data (no pool) -/
def D.dat : D → Bool
  | .tok => false
  | .scr _ => false
  | _ => true
def wIsI (t : Ty) (a : WE) : WE := fun Γ k => a Γ fun x => x.dat = true ∧ k (.bl (x.isTy t))
def bools : List D → Option (List Bool)
  | [] => some []
  | .bl b :: r => (bools r).map (b :: ·)
  | _ => none
def fAll : Fn := fn1 fun x k => kLst x fun s => ∃ bs, bools s = some bs ∧ k (.bl (bs.all id))
def fAny : Fn := fn1 fun x k => kLst x fun s => ∃ bs, bools s = some bs ∧ k (.bl (bs.any id))

/-! subscripts -/
def oIx : Op2 := fun x y k => match x with
  | .lst s => kInt y fun i => ∃ v, atD s i = some v ∧ k v
  | .scr s => kInt y fun i => ∃ v, atD s i = some v ∧ k v
  | .tup s => kInt y fun i => ∃ v, atD s i = some v ∧ k v
  | .str s => kInt y fun i => s.length ≤ SZ ∧ ∃ c, atD s i = some c ∧ k (.str [c])
  | .dic s => y.key = true ∧ ∃ v, look s y = some v ∧ k v
  | .dit s => y.nkey = true ∧ ∃ v, look s y = some v ∧ k v
  | _ => False
abbrev WO := Gam → (Option Int → Prop) → Prop
def woN : WO := fun _ k => k none
def woS (a : WE) : WO := fun Γ k => a Γ fun x => kInt x fun i => k (some i)
def wSlice (a : WE) (lo hi : WO) : WE := fun Γ k => a Γ fun x => lo Γ fun l => hi Γ fun h => match x with
  | .lst s => k (.lst (cutD s l h))
  | .tup s => k (.tup (cutD s l h))
  | .str s => s.length ≤ SZ ∧ k (.str (cutD s l h))
  | _ => False

/-! methods of texts -/
abbrev Mt := List Nat → List D → (D → Prop) → Prop
def wMt (m : Mt) (o : WE) (a : WA) : WE := fun Γ k => o Γ fun x => kStr x fun s => a Γ fun xs => m s xs k
def mt1 (f : List Nat → List Nat → (D → Prop) → Prop) : Mt := fun s xs k => match xs with
  | [.str t] => f s t k
  | _ => False
/-- how often the sign c stands in s -/
def mCount : Mt := mt1 fun s t k => ∃ c, t = [c] ∧ k (.int (s.count c))
/-- the last, the first place of the sign c, or -1 -/
def rfindC (c : Nat) (s : List Nat) : Int := match (s.reverse.findIdx? (· == c)) with
  | some j => (s.length : Int) - 1 - j
  | none => -1
def findC (c : Nat) (s : List Nat) : Int := match (s.findIdx? (· == c)) with
  | some j => (j : Int)
  | none => -1
def mRfind : Mt := mt1 fun s t k => ∃ c, t = [c] ∧ k (.int (rfindC c s))
def mFind : Mt := mt1 fun s t k => ∃ c, t = [c] ∧ k (.int (findC c s))
def mStarts : Mt := mt1 fun s t k => k (.bl (t.isPrefixOf s))
def mEnds : Mt := mt1 fun s t k => k (.bl (t.isSuffixOf s))
/-- s cut at each sign c -/
def splitC (c : Nat) : List Nat → List (List Nat)
  | [] => [[]]
  | x :: s => if x = c then [] :: splitC c s else match splitC c s with
    | [] => [[x]]
    | w :: ws => (x :: w) :: ws
def mSplit : Mt := mt1 fun s t k => ∃ c, t = [c] ∧ (c < 256 ∧ s.length + 2 ≤ SZ) ∧ k (.lst ((splitC c s).map .str))
def strsD : List D → Option (List (List Nat))
  | [] => some []
  | .str b :: r => (strsD r).map (b :: ·)
  | _ => none
def joinD (sep : List Nat) : List (List Nat) → List Nat
  | [] => []
  | [w] => w
  | w :: v :: ws => w ++ sep ++ joinD sep (v :: ws)
def mJoin : Mt := fun s xs k => match xs with
  | [.lst ys] => ∃ ws, strsD ys = some ws ∧ (ws.map (·.length)).sum + ws.length * s.length ≤ SZ ∧ k (.str (joinD s ws))
  | [.tup ys] => ∃ ws, strsD ys = some ws ∧ (ws.map (·.length)).sum + ws.length * s.length ≤ SZ ∧ k (.str (joinD s ws))
  | _ => False
/-- signs below 128 -/
def asc (s : List Nat) : Bool := s.all fun c => decide (c < 128)
def upC (c : Nat) : Bool := decide (65 ≤ c) && decide (c ≤ 90)
def loC (c : Nat) : Bool := decide (97 ≤ c) && decide (c ≤ 122)
def diC (c : Nat) : Bool := decide (48 ≤ c) && decide (c ≤ 57)
def lowC (c : Nat) : Nat := if upC c = true then c + 32 else c
abbrev Mt0 := List Nat → (D → Prop) → Prop
def wMt0 (m : Mt0) (o : WE) : WE := fun Γ k => o Γ fun x => kStr x fun s => m s k
def mIsupper : Mt0 := fun s k => asc s = true ∧ k (.bl (s.any upC && s.all fun c => !loC c))
def mIsalnum : Mt0 := fun s k => asc s = true ∧ k (.bl (!s.isEmpty && s.all fun c => upC c || loC c || diC c))
def mIsalpha : Mt0 := fun s k => asc s = true ∧ k (.bl (!s.isEmpty && s.all fun c => upC c || loC c))
def mIsdigit : Mt0 := fun s k => asc s = true ∧ k (.bl (!s.isEmpty && s.all diC))
def mLower : Mt0 := fun s k => (asc s = true ∧ s.length ≤ 5592405) ∧ k (.str (s.map lowC))

/-! ### what is walked -/
def wRange1 (a : WE) : WI := fun Γ k => a Γ fun x => kInt x fun n => (-(2 ^ 62) ≤ n ∧ n < 2 ^ 62) ∧ k ((List.range n.toNat).map fun i => .int (i : Nat))
def wRange2 (a b : WE) : WI := fun Γ k => a Γ fun x => b Γ fun y => kInt x fun m => kInt y fun n => (-(2 ^ 62) ≤ m ∧ m < 2 ^ 62 ∧ -(2 ^ 62) ≤ n ∧ n < 2 ^ 62) ∧ k ((List.range (n - m).toNat).map fun i => .int (m + (i : Nat)))
/-- a list, a tuple, a text -/
def wItems (a : WE) : WI := fun Γ k => a Γ fun x => match x with
  | .lst s => k s
  | .tup s => k s
  | .str s => k (s.map fun c => .str [c])
  | _ => False
def boIt : Option Cel → (List D → Prop) → Prop
  | some (.bo (.lst ds)), k => k ds
  | some (.bo (.tup ds)), k => k ds
  | _, _ => False
def owIt : Option Cel → (List D → Prop) → Prop
  | some (.ow _ (.lst ds)), k => k ds
  | _, _ => False
/-- a caller's list; an own list -/
def wBoIt (i : Nat) : WI := fun Γ k => boIt Γ[i]? k
def wOwIt (i : Nat) : WI := fun Γ k => owIt Γ[i]? k
/-- the keys of a name's dict -/
def dicIt : Option Cel → (List D → Prop) → Prop
  | some (.sh (.dic es)), k => k (es.map (·.1))
  | some (.bo (.dic es)), k => k (es.map (·.1))
  | some (.sh (.dit es)), k => k (es.map (·.1))
  | some (.bo (.dit es)), k => k (es.map (·.1))
  | _, _ => False
def wKeys (i : Nat) : WI := fun Γ k => dicIt Γ[i]? k

/-! targets -/
def gNm (i : Nat) : WG := fun d Γ k => k (Γ.set i (.sh d))
abbrev WGs := List D → Gam → (Gam → Prop) → Prop
def gsNil : WGs := fun ds Γ k => ds = [] ∧ k Γ
def gsCons (g : WG) (r : WGs) : WGs := fun ds Γ k => match ds with
  | d :: ds => g d Γ fun Γ' => r ds Γ' k
  | _ => False
def gTp (n : Nat) (g : WGs) : WG := fun d Γ k => match d with
  | .tup ds => ds.length = n ∧ g ds Γ k
  | _ => False

/-- [e for t in .. if c] -/
def compD (g : WG) (t : WT) (e : WE) (Γ : Gam) (k : List D → Prop) : List D → List D → Prop
  | [], acc => k acc
  | d :: ds, acc => g d Γ fun Γ' => t Γ' fun b => if b = true then e Γ' fun y => acc.length < SZ ∧ compD g t e Γ k ds (acc ++ [y]) else compD g t e Γ k ds acc
def wipeD (Γ : Gam) : List Nat → Gam
  | [] => Γ
  | v :: vs => (wipeD Γ vs).set v .no
def wYes : WT := fun _ k => k true
def wComp (own : List Nat) (i : WI) (g : WG) (t : WT) (e : WE) : WE := fun Γ k => i Γ fun ds => compD g t e (wipeD Γ own) (fun acc => k (.lst acc)) ds []
/-- {a: b for t in ..} -/
def dcompD (g : WG) (t : WT) (e f : WE) (Γ : Gam) (k : List (D × D) → Prop) : List D → List (D × D) → Prop
  | [], acc => k acc
  | d :: ds, acc => g d Γ fun Γ' => t Γ' fun b => if b = true then e Γ' fun x => f Γ' fun y => (x.key = true ∧ acc.length < SZ) ∧ dcompD g t e f Γ k ds (put acc x y) else dcompD g t e f Γ k ds acc
/-- .. with tuple keys -/
def dcompT (g : WG) (t : WT) (e f : WE) (Γ : Gam) (k : List (D × D) → Prop) : List D → List (D × D) → Prop
  | [], acc => k acc
  | d :: ds, acc => g d Γ fun Γ' => t Γ' fun b => if b = true then e Γ' fun x => f Γ' fun y => (x.nkey = true ∧ acc.length < SZ) ∧ dcompT g t e f Γ k ds (put acc x y) else dcompT g t e f Γ k ds acc
def wDCompT (own : List Nat) (i : WI) (g : WG) (t : WT) (e f : WE) : WE := fun Γ k => i Γ fun ds => dcompT g t e f (wipeD Γ own) (fun acc => k (.dit acc)) ds []
def wDComp (own : List Nat) (i : WI) (g : WG) (t : WT) (e f : WE) : WE := fun Γ k => i Γ fun ds => dcompD g t e f (wipeD Γ own) (fun acc => k (.dic acc)) ds []

/-! ### statements -/
def wNext : WS := fun E Γ => E.nx Γ
def wSeq (a b : WS) : WS := fun E Γ => a { E with nx := fun Γ' => b E Γ' } Γ
def wBreak : WS := fun E Γ => E.bk Γ
def wCont : WS := fun E Γ => E.ct Γ
def wExpr (a : WE) : WS := fun E Γ => a Γ fun _ => E.nx Γ
def wRet (a : WE) : WS := fun E Γ => a Γ E.rt
def wRetN : WS := fun E _ => E.rt .non
def wIfS (t : WT) (a b : WS) : WS := fun E Γ => t Γ fun c => if c = true then a E Γ else b E Γ
/-- x = e, the value kept for good -/
def wAsg (g : WG) (a : WE) : WS := fun E Γ => a Γ fun d => g d Γ E.nx
/-- a new list or dict is this def's own -/
def celOf (a : Nat) (d : D) : Cel := if d.flat = true then .sh d else .ow a d
def wOwnAsg (i : Nat) (a : WE) : WS := fun E Γ => a Γ fun d => ∀ p, E.nx (Γ.set i (celOf p d))
/-- the name's own list is changed no more -/
def frz : Cel → Cel
  | .ow _ d => .sh d
  | c => c
def wFrz (i : Nat) (s : WS) : WS := fun E Γ => s E (Γ.set i (frz (Γ[i]?.getD .no)))
def wAppend (i : Nat) (a : WE) : WS := fun E Γ => cellOw Γ[i]? fun p x => kLst x fun xs => a Γ fun d => xs.length < SZ ∧ E.nx (Γ.set i (.ow p (.lst (xs ++ [d]))))
def wInsert (i : Nat) (a b : WE) : WS := fun E Γ => cellOw Γ[i]? fun p x => kLst x fun xs => a Γ fun q => b Γ fun d => kInt q fun j => (xs.length < SZ ∧ 0 ≤ j ∧ j < 2 ^ 63) ∧ E.nx (Γ.set i (.ow p (.lst (xs.take j.toNat ++ [d] ++ xs.drop j.toNat))))
def wExtend (i : Nat) (a : WE) : WS := fun E Γ => cellOw Γ[i]? fun p x => kLst x fun xs => a Γ fun d => kLst d fun ys => xs.length + ys.length ≤ SZ ∧ E.nx (Γ.set i (.ow p (.lst (xs ++ ys))))
/-- d.pop(a), d.clear() of an own dict with tuple keys -/
def wPopT (i : Nat) (a : WE) : WS := fun E Γ => cellOw Γ[i]? fun p x => kDit x fun kvs => a Γ fun q => (q.nkey = true ∧ (look kvs q).isSome) ∧ E.nx (Γ.set i (.ow p (.dit (drop kvs q))))
def wClearT (i : Nat) : WS := fun E Γ => cellOw Γ[i]? fun p x => kDit x fun _ => E.nx (Γ.set i (.ow p (.dit [])))
def wClear (i : Nat) : WS := fun E Γ => cellOw Γ[i]? fun p x => kLst x fun _ => E.nx (Γ.set i (.ow p (.lst [])))
/-- y = x.pop() -/
def wPopTo (j i : Nat) : WS := fun E Γ => cellOw Γ[i]? fun p x => kLst x fun xs => ∃ v, xs[xs.length - 1]? = some v ∧ E.nx ((Γ.set i (.ow p (.lst xs.dropLast))).set j (.sh v))
/-- x[a] = b -/
def setIx (Γ : Gam) (i : Nat) (p : Nat) (x q d : D) (k : Gam → Prop) : Prop := match x with
  | .lst xs => kInt q fun j => ∃ n, ixN xs.length j = some n ∧ k (Γ.set i (.ow p (.lst (xs.set n d))))
  | .dic kvs => (q.key = true ∧ kvs.length < SZ) ∧ k (Γ.set i (.ow p (.dic (put kvs q d))))
  | .dit kvs => (q.nkey = true ∧ kvs.length < SZ) ∧ k (Γ.set i (.ow p (.dit (put kvs q d))))
  | _ => False
def wSetIx (i : Nat) (a b : WE) : WS := fun E Γ => b Γ fun d => cellOw Γ[i]? fun p x => a Γ fun q => setIx Γ i p x q d E.nx
/-- for t in ..: keep says what the turns leave -/
def forD (g : WG) (b : WS) (E : DEnds) (keep : Gam → Prop) : List D → Gam → Prop
  | [], Γ => E.nx Γ
  | d :: ds, Γ => g d Γ fun Γ1 => b { nx := fun Γ' => keep Γ' ∧ forD g b E keep ds Γ', rt := E.rt, bk := E.nx, ct := fun Γ' => keep Γ' ∧ forD g b E keep ds Γ' } Γ1
def wFor (i : WI) (g : WG) (b : WS) : WS := fun E Γ => i Γ fun ds => forD g b E (fun _ => True) ds Γ
/-- over the own list of the name j, which the turns leave as it is -/
def wForOw (j : Nat) (i : WI) (g : WG) (b : WS) : WS := fun E Γ => i Γ fun ds => forD g b E (fun Γ' => Γ'[j]? = Γ[j]?) ds Γ
def wWhile (t : WT) (b : WS) : WS := fun E Γ => ∃ W : Nat → Gam → Prop, (∃ m, W m Γ) ∧ ∀ m Γ, W m Γ → t Γ fun c => if c = true then
  b { nx := fun Γ' => ∃ m', m' < m ∧ W m' Γ', rt := E.rt, bk := E.nx, ct := fun Γ' => ∃ m', m' < m ∧ W m' Γ' } Γ else E.nx Γ

/-- the cells at the entry -/
def startD : List Bool → List D → Nat → Gam
  | true :: ms, d :: ds, n => .sh d :: startD ms ds n
  | false :: ms, d :: ds, n => .bo d :: startD ms ds n
  | _, _, n => List.replicate n .no

/-! ### sorted by a def's key -/
abbrev KK := Bool × (Int ⊕ List Nat)
def kLt : KK → KK → Bool
  | (_, .inl i), (_, .inl j) => decide (i < j)
  | (_, .inr x), (_, .inr y) => decide (x < y)
  | (_, .inl _), (_, .inr _) => true
  | (_, .inr _), (_, .inl _) => false
def kkD : KK → D
  | (b, .inl i) => .tup [.bl b, .int i]
  | (b, .inr s) => .tup [.bl b, .str s]
def okK (d : KK) : Prop := match d.2 with
  | .inl _ => d.1 = false
  | .inr _ => d.1 = true
def itemsK (x : D) (k : List D → Prop) : Prop := match x with
  | .lst s => k s
  | .tup s => k s
  | _ => False
/-- sorted(a, key=f): any order that the keys allow -/
def wSortK (S : Spec) (a : WE) : WE := fun Γ k => a Γ fun x => itemsK x fun xs => ∃ key : D → KK, (∀ y ∈ xs, S.pre [y] ∧ (∀ d, S.post [y] d → d = kkD (key y)) ∧ okK (key y)) ∧ ∀ ys, ys.Perm xs → ys.Pairwise (fun p q => kLt (key q) (key p) = false) → k (.lst ys)

/-! ### sorted of tuples that three ints tell apart -/
abbrev K3 := Int × Int × Int
def lt3 (p q : K3) : Bool := decide (p.1 < q.1 ∨ (p.1 = q.1 ∧ (p.2.1 < q.2.1 ∨ (p.2.1 = q.2.1 ∧ p.2.2 < q.2.2))))
def isK3 (y : D) (k : K3) : Prop := ∃ rest, y = .tup (.int k.1 :: .int k.2.1 :: .int k.2.2 :: rest)
def okK3 (key : D → K3) (xs : List D) : Prop := (∀ y ∈ xs, isK3 y (key y) ∧ y.plain 60 = true) ∧ ∀ y ∈ xs, ∀ z ∈ xs, key y = key z → y = z
def wSortL (a : WE) : WE := fun Γ k => a Γ fun x => kLst x fun xs => ∃ key : D → K3, okK3 key xs ∧ ∀ ys, ys.Perm xs → ys.Pairwise (fun p q => lt3 (key q) (key p) = false) → k (.lst ys)

/-! ### the pool and the law -/
/-- a draw: any number below the bound -/
def S_draw : Spec where
  pre ds := ∃ m : Int, ds = [.tok, .int m] ∧ 0 < m ∧ m < 1073741824
  post ds d := ∃ m r : Int, ds = [.tok, .int m] ∧ d = .int r ∧ 0 ≤ r ∧ r < m
def S_pool0 : Spec where
  pre ds := ∃ (ns : List Int) (i : Int), ds = [.scr (ns.map .int), .int i] ∧ ns.length ≤ 63 ∧ 0 ≤ i ∧ i < 1000000
  post ds d := ∃ x y : Int, d = .lst [.int x, .int y, .int 0] ∧ 0 ≤ x ∧ 0 ≤ y ∧ y < 2 ^ 32
def S_pool : Spec where
  pre ds := ∃ (ns : List Int) (i : Int), ds = [.scr (ns.map .int), .int i] ∧ ns.length ≤ 63 ∧ 0 ≤ i ∧ i < 1000000
  post ds d := d = .tok
def S_law : Spec where
  pre ds := ∃ ns : List Int, ds = [.scr (ns.map .int)] ∧ ns.length ≤ 63
  post _ d := d = .bl true
end DL

/-! DCore: trees in the abstract heap, a def's state, judgements. -/
namespace DL
open PySem PySem.Spec PyProof.Rows L2

/-- a text of these codes -/
abbrev S (l : List Nat) : Str := ⟨l.toArray⟩
def keyD : Key → D
  | .inl i => .int i
  | .inr x => .str x.cps.toList

/-- what stands for good: objects that are changed no more; pools -/
structure Wd where
  B : Hp
  P : Addr → Prop
structure Wd.Le (W W' : Wd) : Prop where
  b : ∀ a o, W.B a = some o → W'.B a = some o
  p : ∀ a, W.P a → W'.P a
theorem Wd.Le.refl (W : Wd) : W.Le W := ⟨fun _ _ h => h, fun _ h => h⟩
theorem Wd.Le.trans {W W1 W2 : Wd} (a : W.Le W1) (b : W1.Le W2) : W.Le W2 := ⟨fun x o h => b.b x o (a.b x o h), fun x h => b.p x (a.p x h)⟩

/-! ### dicts with tuple keys -/
/-- the world that hashes texts -/
class WW where
  w : World
/-- the rules' world is the one that hashes -/
class Lk [WW] (w : World) : Prop where
  e : WW.w = w
mutual
/-- a tuple key of the kit -/
def nk : D → NestedKey
  | .int i => .num i
  | .str s => .text (S s)
  | .tup xs => .tup (nks xs)
  | _ => .none
def nks : List D → List NestedKey
  | [] => []
  | x :: xs => nk x :: nks xs
end
/-- an entry: the key, where its tuple stands, the value -/
abbrev NE := NestedKey × Addr × V
def NRel (p : NE) (q : NestedKey × Addr × Value) : Prop := p.1 = q.1 ∧ p.2.1 = q.2.1 ∧ RelV p.2.2 q.2.2
def NdAt [WW] (a : Addr) (xs : List NE) (h : Heap) : Prop := xs.length ≤ sizeLine ∧ (a == sysModules) = false ∧ ∃ ys : List (NestedKey × Addr × Value), Paired NRel xs ys ∧
  ∃ o es ep, h.get? a = some o ∧ o.ExactDict ∧ o.data = .dict es ep ∧ es.toList = ys.map (fun y => ⟨y.1.hash WW.w, .ref y.2.1, y.2.2⟩) ∧ (ys.map (·.1)).Nodup
def NdO [WW] (a : Addr) (xs : List NE) : HO := .ext (NdAt a xs)
section
variable (K : PySem.W.Frag) [WW]
mutual
/-- the value v is the tree d -/
inductive Rep (W : Wd) : V → D → Prop
  | non : Rep W .non .non
  | bl (b : Bool) : Rep W (.bl b) (.bl b)
  | int (i : Int) : Rep W (.int i) (.int i)
  | str (s : List Nat) : Rep W (.str (S s)) (.str s)
  | tup {a : Addr} {vs : List V} {ds : List D} : SqT K W.B a vs → Reps W vs ds → Rep W (.ref a) (.tup ds)
  | lst {a : Addr} {vs : List V} {ds : List D} : W.B a = some (.lst vs) → Reps W vs ds → Rep W (.ref a) (.lst ds)
  | scr {a : Addr} {vs : List V} {ds : List D} : SqL K W.B a vs → Reps W vs ds → Rep W (.ref a) (.scr ds)
  | dk {a : Addr} {kvs : List (Key × V)} {es : List (D × D)} : W.B a = some (.dK kvs) → RepK W kvs es → Rep W (.ref a) (.dic es)
  | tok {a : Addr} : W.P a → Rep W (.ref a) .tok
  | dn {a b : Addr} {xs : List NE} {es : List (D × D)} : W.B a = some (NdO b xs) → RepN W xs es → Rep W (.ref a) (.dit es)
inductive Reps (W : Wd) : List V → List D → Prop
  | nil : Reps W [] []
  | cons {v : V} {d : D} {vs : List V} {ds : List D} : Rep W v d → Reps W vs ds → Reps W (v :: vs) (d :: ds)
inductive RepK (W : Wd) : List (Key × V) → List (D × D) → Prop
  | nil : RepK W [] []
  | cons {k : Key} {v : V} {d : D} {kvs : List (Key × V)} {es : List (D × D)} : Rep W v d → RepK W kvs es → RepK W ((k, v) :: kvs) ((keyD k, d) :: es)
inductive RepN (W : Wd) : List NE → List (D × D) → Prop
  | nil : RepN W [] []
  | cons {k : NestedKey} {p : Addr} {v : V} {q d : D} {xs : List NE} {es : List (D × D)} : Rep W (.ref p) q → q.nkey = true → k = nk q → Rep W v d → RepN W xs es → RepN W ((k, p, v) :: xs) ((q, d) :: es)
end
/-- an object and its tree -/
inductive RepO (W : Wd) : HO → D → Prop
  | lst {vs : List V} {ds : List D} : Reps K W vs ds → RepO W (.lst vs) (.lst ds)
  | dk {kvs : List (Key × V)} {es : List (D × D)} : RepK K W kvs es → RepO W (.dK kvs) (.dic es)
  | dn {a : Addr} {xs : List NE} {es : List (D × D)} : RepN K W xs es → RepO W (NdO a xs) (.dit es)
end
section
variable [WW]

theorem Rd.le {W W' : Wd} (l : W.Le W') {a : Addr} {u : HO} (h : Rd W.B a u) : Rd W'.B a u := by
  rcases h with h | ⟨o, h⟩
  · exact .inl (l.b _ _ h)
  · exact .inr ⟨o, l.b _ _ h⟩
theorem SqL.le {K : PySem.W.Frag} {W W' : Wd} (l : W.Le W') {a : Addr} {vs : List V} (h : SqL K W.B a vs) : SqL K W'.B a vs := by
  rcases h with h | h
  · exact .inl (Rd.le l h)
  · exact .inr h
theorem SqT.le {K : PySem.W.Frag} {W W' : Wd} (l : W.Le W') {a : Addr} {vs : List V} (h : SqT K W.B a vs) : SqT K W'.B a vs := by
  rcases h with h | h
  · exact .inl (Rd.le l h)
  · exact .inr h
mutual
theorem Rep.le {K : PySem.W.Frag} {W W' : Wd} (l : W.Le W') : ∀ {d : D} {v : V}, Rep K W v d → Rep K W' v d
  | _, _, .non => .non
  | _, _, .bl b => .bl b
  | _, _, .int i => .int i
  | _, _, .str s => .str s
  | _, _, .tup h r => .tup (SqT.le l h) (Reps.le l r)
  | _, _, .lst h r => .lst (l.b _ _ h) (Reps.le l r)
  | _, _, .scr h r => .scr (SqL.le l h) (Reps.le l r)
  | _, _, .dk h r => .dk (l.b _ _ h) (RepK.le l r)
  | _, _, .tok h => .tok (l.p _ h)
  | _, _, .dn h r => .dn (l.b _ _ h) (RepN.le l r)
theorem Reps.le {K : PySem.W.Frag} {W W' : Wd} (l : W.Le W') : ∀ {ds : List D} {vs : List V}, Reps K W vs ds → Reps K W' vs ds
  | _, _, .nil => .nil
  | _, _, .cons h r => .cons (Rep.le l h) (Reps.le l r)
theorem RepK.le {K : PySem.W.Frag} {W W' : Wd} (l : W.Le W') : ∀ {es : List (D × D)} {kvs : List (Key × V)}, RepK K W kvs es → RepK K W' kvs es
  | _, _, .nil => .nil
  | _, _, .cons h r => .cons (Rep.le l h) (RepK.le l r)
theorem RepN.le {K : PySem.W.Frag} {W W' : Wd} (l : W.Le W') : ∀ {es : List (D × D)} {xs : List NE}, RepN K W xs es → RepN K W' xs es
  | _, _, .nil => .nil
  | _, _, .cons h n e h2 r => .cons (Rep.le l h) n e (Rep.le l h2) (RepN.le l r)
end
theorem RepO.le {K : PySem.W.Frag} {W W' : Wd} (l : W.Le W') {o : HO} {d : D} (h : RepO K W o d) : RepO K W' o d := by
  cases h with
  | lst r => exact .lst (r.le l)
  | dk r => exact .dk (r.le l)
  | dn r => exact .dn (r.le l)

section
variable {K : PySem.W.Frag} {W : Wd}
theorem Reps.length : ∀ {vs : List V} {ds : List D}, Reps K W vs ds → vs.length = ds.length
  | _, _, .nil => rfl
  | _, _, .cons _ r => congrArg (· + 1) (Reps.length r)
theorem RepK.length : ∀ {vs : List (Key × V)} {ds : List (D × D)}, RepK K W vs ds → vs.length = ds.length
  | _, _, .nil => rfl
  | _, _, .cons _ r => congrArg (· + 1) (RepK.length r)
theorem Reps.get : ∀ {vs : List V} {ds : List D} {i : Nat} {d : D}, Reps K W vs ds → ds[i]? = some d → ∃ v, vs[i]? = some v ∧ Rep K W v d
  | _, _, _, _, .nil, e => by simp at e
  | _, _, 0, _, .cons h _, e => by simp at e; subst e; exact ⟨_, rfl, h⟩
  | _, _, i + 1, d, .cons _ r, e => by
    obtain ⟨v, h1, h2⟩ := Reps.get (i := i) (d := d) r (by simpa using e)
    exact ⟨v, by simpa using h1, h2⟩
theorem Reps.get2 : ∀ {vs : List V} {ds : List D} {i : Nat} {v : V}, Reps K W vs ds → vs[i]? = some v → ∃ d, ds[i]? = some d ∧ Rep K W v d
  | _, _, _, _, .nil, e => by simp at e
  | _, _, 0, _, .cons h _, e => by simp at e; subst e; exact ⟨_, rfl, h⟩
  | _, _, i + 1, v, .cons _ r, e => by
    obtain ⟨d, h1, h2⟩ := Reps.get2 (i := i) (v := v) r (by simpa using e)
    exact ⟨d, by simpa using h1, h2⟩
theorem Reps.append : ∀ {vs ws : List V} {ds es : List D}, Reps K W vs ds → Reps K W ws es → Reps K W (vs ++ ws) (ds ++ es)
  | _, _, _, _, .nil, s => s
  | _, _, _, _, .cons h r, s => .cons h (Reps.append r s)
theorem Reps.take : ∀ {vs : List V} {ds : List D} (n : Nat), Reps K W vs ds → Reps K W (vs.take n) (ds.take n)
  | _, _, 0, _ => .nil
  | _, _, _ + 1, .nil => .nil
  | _, _, n + 1, .cons h r => .cons h (Reps.take n r)
theorem Reps.drop : ∀ {vs : List V} {ds : List D} (n : Nat), Reps K W vs ds → Reps K W (vs.drop n) (ds.drop n)
  | _, _, 0, r => r
  | _, _, _ + 1, .nil => .nil
  | _, _, n + 1, .cons _ r => Reps.drop n r
theorem Reps.set {v : V} {d : D} (h : Rep K W v d) : ∀ {vs : List V} {ds : List D} (n : Nat), Reps K W vs ds → Reps K W (vs.set n v) (ds.set n d)
  | _, _, _, .nil => .nil
  | _, _, 0, .cons _ r => .cons h r
  | _, _, n + 1, .cons q r => .cons q (Reps.set h n r)
theorem Reps.dropLast {vs : List V} {ds : List D} (h : Reps K W vs ds) : Reps K W vs.dropLast ds.dropLast := by
  rw [List.dropLast_eq_take, List.dropLast_eq_take, h.length]
  exact h.take _
theorem Reps.reverse : ∀ {vs : List V} {ds : List D}, Reps K W vs ds → Reps K W vs.reverse ds.reverse
  | _, _, .nil => .nil
  | _, _, .cons h r => by
    rw [List.reverse_cons, List.reverse_cons]
    exact (Reps.reverse r).append (.cons h .nil)
theorem Reps.ints : ∀ (ns : List Int), Reps K W (ns.map V.int) (ns.map D.int)
  | [] => .nil
  | i :: r => .cons (.int i) (Reps.ints r)
theorem Reps.strs : ∀ (ns : List (List Nat)), Reps K W (ns.map fun s => V.str (S s)) (ns.map D.str)
  | [] => .nil
  | i :: r => .cons (.str i) (Reps.strs r)
theorem RepK.get : ∀ {vs : List (Key × V)} {ds : List (D × D)} {i : Nat} {q d : D}, RepK K W vs ds → ds[i]? = some (q, d) → ∃ k v, vs[i]? = some (k, v) ∧ keyD k = q ∧ Rep K W v d
  | _, _, _, _, _, .nil, e => by simp at e
  | _, _, 0, _, _, .cons h _, e => by simp at e; obtain ⟨e1, e2⟩ := e; subst e1; subst e2; exact ⟨_, _, rfl, rfl, h⟩
  | _, _, i + 1, q, d, .cons _ r, e => by
    obtain ⟨k, v, h1, h2⟩ := RepK.get (i := i) (d := d) r (by simpa using e)
    exact ⟨k, v, by simpa using h1, h2⟩
theorem RepK.append : ∀ {vs ws : List (Key × V)} {ds es : List (D × D)}, RepK K W vs ds → RepK K W ws es → RepK K W (vs ++ ws) (ds ++ es)
  | _, _, _, _, .nil, s => s
  | _, _, _, _, .cons h r, s => .cons h (RepK.append r s)
theorem RepK.keys : ∀ {vs : List (Key × V)} {ds : List (D × D)}, RepK K W vs ds → ds.map (·.1) = vs.map fun p => keyD p.1
  | _, _, .nil => rfl
  | _, _, .cons h r => by rw [List.map_cons, List.map_cons, RepK.keys r]
/-- keys are alike as trees exactly if they are one -/
theorem keyD_eqv (a b : Key) : (keyD a).eqv (keyD b) = decide (a = b) := by
  cases a with
  | inl i =>
    cases b with
    | inl j =>
      show (i == j) = _
      rw [Bool.beq_eq_decide_eq]
      exact decide_eq_decide.mpr ⟨fun e => by rw [e], fun e => Sum.inl.inj e⟩
    | inr y => rfl
  | inr x =>
    cases b with
    | inl j => rfl
    | inr y =>
      show (x.cps.toList == y.cps.toList) = _
      rw [Bool.beq_eq_decide_eq]
      refine decide_eq_decide.mpr ⟨fun e => ?_, fun e => by rw [Sum.inr.inj e]⟩
      obtain ⟨xa⟩ := x
      obtain ⟨ya⟩ := y
      have e' : xa = ya := Array.toList_inj.mp e
      rw [e']
theorem RepK.look (k : Key) : ∀ {vs : List (Key × V)} {ds : List (D × D)}, RepK K W vs ds → (∀ d, look ds (keyD k) = some d → ∃ v, valV vs k = some v ∧ Rep K W v d) ∧ (look ds (keyD k) = none → valV vs k = none)
  | _, _, .nil => ⟨fun d e => (by cases e), fun _ => rfl⟩
  | _, _, .cons (k := j) (v := v) (d := d) (kvs := kvs) (es := es) h r => by
    obtain ⟨h1, h2⟩ := RepK.look k r
    by_cases hj : j = k
    · have e1 : DL.look ((keyD j, d) :: es) (keyD k) = some d := by
        unfold DL.look
        rw [List.find?_cons, show (keyD j, d).1.eqv (keyD k) = true by rw [keyD_eqv]; exact decide_eq_true hj]
        rfl
      rw [e1, valV_pos (p := (j, v)) hj]
      exact ⟨fun d' e => ⟨v, rfl, by cases e; exact h⟩, fun e => by cases e⟩
    · have e1 : DL.look ((keyD j, d) :: es) (keyD k) = DL.look es (keyD k) := by
        unfold DL.look
        rw [List.find?_cons, show (keyD j, d).1.eqv (keyD k) = false by rw [keyD_eqv]; exact decide_eq_false hj]
      rw [e1, valV_neg (p := (j, v)) hj]
      exact ⟨h1, h2⟩
theorem RepK.isSome (k : Key) {vs : List (Key × V)} {ds : List (D × D)} (r : RepK K W vs ds) : (valV vs k).isSome = (DL.look ds (keyD k)).isSome := by
  obtain ⟨h1, h2⟩ := r.look k
  cases e : DL.look ds (keyD k) with
  | none => rw [h2 e]; rfl
  | some d =>
    obtain ⟨v, e', _⟩ := h1 d e
    rw [e']
    rfl
theorem RepK.map_put (k : Key) {v : V} {d : D} (h : Rep K W v d) : ∀ {vs : List (Key × V)} {ds : List (D × D)}, RepK K W vs ds →
    RepK K W (vs.map fun kv => if kv.1 = k then (kv.1, v) else kv) (ds.map fun p => if p.1.eqv (keyD k) then (p.1, d) else p)
  | _, _, .nil => .nil
  | _, _, .cons (k := j) (v := u) (d := z) (kvs := kvs) (es := es) q r => by
    rw [List.map_cons, List.map_cons]
    have e : (keyD j).eqv (keyD k) = decide (j = k) := keyD_eqv j k
    by_cases hj : j = k
    · rw [if_pos (show (j, u).1 = k from hj), if_pos (show (keyD j, z).1.eqv (keyD k) = true by rw [e]; exact decide_eq_true hj)]
      exact .cons h (RepK.map_put k h r)
    · rw [if_neg (show ¬ (j, u).1 = k from hj), if_neg (show ¬ (keyD j, z).1.eqv (keyD k) = true by rw [e, decide_eq_false hj]; decide)]
      exact .cons q (RepK.map_put k h r)
theorem RepK.put (k : Key) {v : V} {d : D} (h : Rep K W v d) {vs : List (Key × V)} {ds : List (D × D)} (r : RepK K W vs ds) : RepK K W (putK vs k v) (put ds (keyD k) d) := by
  have e := r.isSome k
  have e2 := valV_any k vs
  cases hs : (DL.look ds (keyD k)).isSome with
  | true =>
    have hp : DL.put ds (keyD k) d = ds.map fun p => if p.1.eqv (keyD k) then (p.1, d) else p := by unfold DL.put; rw [if_pos hs]
    have hq : putK vs k v = vs.map fun kv => if kv.1 = k then (kv.1, v) else kv := by
      unfold putK
      rw [if_pos (by rw [e2, e, hs])]
    rw [hp, hq]
    exact r.map_put k h
  | false =>
    have hp : DL.put ds (keyD k) d = ds ++ [(keyD k, d)] := by unfold DL.put; rw [if_neg (by rw [hs]; decide)]
    have hq : putK vs k v = vs ++ [(k, v)] := putK_new v (by
      rw [hs] at e
      cases q : valV vs k with
      | none => rfl
      | some _ => rw [q] at e; cases e)
    rw [hp, hq]
    exact r.append (.cons h .nil)
theorem RepK.drop (k : Key) : ∀ {vs : List (Key × V)} {ds : List (D × D)}, RepK K W vs ds → RepK K W (dropK vs k) (DL.drop ds (keyD k))
  | _, _, .nil => .nil
  | _, _, .cons (k := j) (v := u) (d := z) (kvs := kvs) (es := es) q r => by
    have ih := RepK.drop k r
    unfold dropK DL.drop at ih ⊢
    rw [List.filter_cons, List.filter_cons]
    by_cases hj : j = k
    · rw [if_neg (show ¬ decide ((j, u).1 ≠ k) = true by simp [hj]), if_neg (show ¬ (!(keyD j, z).1.eqv (keyD k)) = true by show ¬ (!(keyD j).eqv (keyD k)) = true; rw [keyD_eqv, decide_eq_true hj]; decide)]
      exact ih
    · rw [if_pos (show decide ((j, u).1 ≠ k) = true by simp [hj]), if_pos (show (!(keyD j, z).1.eqv (keyD k)) = true by show (!(keyD j).eqv (keyD k)) = true; rw [keyD_eqv, decide_eq_false hj]; rfl)]
      exact .cons q ih
/-- a tree key is a key -/
theorem key_of {W : Wd} {v : V} {q : D} (r : Rep K W v q) (h : q.key = true) : ∃ k : Key, v = kV k ∧ keyD k = q := by
  cases r with
  | int i => exact ⟨.inl i, rfl, rfl⟩
  | str s => exact ⟨.inr (S s), rfl, by show D.str s.toArray.toList = D.str s; rfl⟩
  | _ => cases h
theorem rep_key (W : Wd) (k : Key) : Rep K W (kV k) (keyD k) := by
  cases k with
  | inl i => exact .int i
  | inr x =>
    obtain ⟨a⟩ := x
    exact .str a.toList
end

end
/-! ### pools -/
def PoolAt (H : Hp) (a : Addr) : Prop := ∃ x y z : Int, H a = some (.lst [.int x, .int y, .int z]) ∧ 0 ≤ x ∧ 0 ≤ y ∧ y < 2 ^ 32 ∧ 0 ≤ z
/-- what may be locked: a dict -/
def Lkb (o : HO) : Prop := Mut (some o) ∧ ∀ vs, o ≠ .lst vs
/-- o may be read at a -/
def RdO (H : Hp) (a : Addr) (o : HO) : Prop := H a = some o ∨ (Lkb o ∧ ∃ ob, H a = some (.frz ob o))
theorem RdO.rd {H : Hp} {a : Addr} {o : HO} (h : RdO H a o) : Rd H a o := by
  rcases h with h | ⟨_, ob, h⟩
  · exact .inl h
  · exact .inr ⟨ob, h⟩
theorem RdO.lst {H : Hp} {a : Addr} {vs : List V} (h : RdO H a (.lst vs)) : H a = some (.lst vs) := by
  rcases h with h | ⟨⟨_, m⟩, _⟩
  · exact h
  · exact absurd rfl (m vs)
/-- what stands for good stands in the heap -/
structure Holds (W : Wd) (H : Hp) : Prop where
  b : ∀ a o, W.B a = some o → RdO H a o
  p : ∀ a, W.P a → PoolAt H a ∧ W.B a = none
theorem Holds.rd {W : Wd} {H : Hp} (h : Holds W H) {a : Addr} {u : HO} (r : Rd W.B a u) : Rd H a u := by
  rcases r with r | ⟨o, r⟩
  · exact (h.b _ _ r).rd
  · rcases h.b _ _ r with q | ⟨⟨m, _⟩, _, _⟩
    · exact .inr ⟨o, q⟩
    · exact m.elim
theorem Holds.seqL {K : PySem.W.Frag} {W : Wd} {H : Hp} (h : Holds W H) {a : Addr} {vs : List V} (q : SqL K W.B a vs) : SqL K H a vs := by
  rcases q with q | q
  · exact .inl (h.rd q)
  · exact .inr q
theorem Holds.seqT {K : PySem.W.Frag} {W : Wd} {H : Hp} (h : Holds W H) {a : Addr} {vs : List V} (q : SqT K W.B a vs) : SqT K H a vs := by
  rcases q with q | q
  · exact .inl (h.rd q)
  · exact .inr q
end DL

/-! DState: a def's state, judgements, the rule for a def. -/
namespace DL
open PySem PySem.Spec PyProof.Rows L2
variable [WW]

/-- from (W, H) on to (W', H'): what stood stands, but the pools -/
structure Ext (W : Wd) (H : Hp) (W' : Wd) (H' : Hp) : Prop where
  le : W.Le W'
  nb : ∀ a o, W'.B a = some o → W.B a = some o ∨ (H a = none ∧ H' a = some o)
  np : ∀ a, W'.P a → W.P a ∨ H a = none
  holds : Holds W' H'
  fr : ∀ a o, H a = some o → ¬ W.P a → H' a = some o
theorem Ext.refl {W : Wd} {H : Hp} (h : Holds W H) : Ext W H W H := ⟨.refl W, fun _ _ x => .inl x, fun _ x => .inl x, h, fun _ _ x _ => x⟩
theorem Holds.ne {W : Wd} {H : Hp} (h : Holds W H) {a : Addr} (p : W.P a) : H a ≠ none := by
  obtain ⟨⟨x, y, z, e, _⟩, _⟩ := h.p a p
  rw [e]
  exact fun q => nomatch q
theorem Ext.nn {W W' : Wd} {H H' : Hp} (hw : Holds W H) (x : Ext W H W' H') {a : Addr} (n : H' a = none) : H a = none := by
  cases e : H a with
  | none => rfl
  | some o =>
    by_cases p : W.P a
    · exact absurd n (x.holds.ne (x.le.p a p))
    · rw [x.fr a o e p] at n
      cases n
theorem Ext.trans {W W1 W2 : Wd} {H H1 H2 : Hp} (hw : Holds W H) (x : Ext W H W1 H1) (y : Ext W1 H1 W2 H2) : Ext W H W2 H2 where
  le := x.le.trans y.le
  nb := fun a o e => by
    rcases y.nb a o e with e | ⟨n, e'⟩
    · rcases x.nb a o e with e | ⟨n, e'⟩
      · exact .inl e
      · exact .inr ⟨n, y.fr a o e' fun p => by rw [(x.holds.p a p).2] at e; cases e⟩
    · exact .inr ⟨x.nn hw n, e'⟩
  np := fun a e => by
    rcases y.np a e with e | n
    · exact x.np a e
    · exact .inr (x.nn hw n)
  holds := y.holds
  fr := fun a o e p => y.fr a o (x.fr a o e p) fun q => by
    rcases x.np a q with q | n
    · exact p q
    · rw [n] at e; cases e

section
variable (K : PySem.W.Frag)
/-- v may be read as d -/
inductive View (W : Wd) (H : Hp) : V → D → Prop
  | rep {v : V} {d : D} : Rep K W v d → View W H v d
  | own {a : Addr} {o : HO} {d : D} : RdO H a o → ¬ W.P a → RepO K W o d → View W H (.ref a) d
/-- v is d, and where it is a list or a dict, it is new and nobody else's -/
def New (W : Wd) (H : Hp) (W' : Wd) (H' : Hp) (v : V) (d : D) : Prop :=
  (d.flat = true ∧ Rep K W' v d) ∨ ∃ p o, v = .ref p ∧ H p = none ∧ W'.B p = none ∧ ¬ W'.P p ∧ H' p = some o ∧ RepO K W' o d
/-- arguments: true: kept for good; false: to be read -/
inductive AR (W : Wd) (H : Hp) : List Bool → List V → List D → Prop
  | nil : AR W H [] [] []
  | sh {v : V} {d : D} {ms : List Bool} {vs : List V} {ds : List D} : Rep K W v d → AR W H ms vs ds → AR W H (true :: ms) (v :: vs) (d :: ds)
  | bo {v : V} {d : D} {ms : List Bool} {vs : List V} {ds : List D} : View K W H v d → AR W H ms vs ds → AR W H (false :: ms) (v :: vs) (d :: ds)
end
section
variable {K : PySem.W.Frag} {W W' : Wd} {H H' : Hp}
theorem rd_ext (x : Ext W H W' H') {a : Addr} {o : HO} (h : RdO H a o) (p : ¬ W.P a) : RdO H' a o := by
  rcases h with h | ⟨m, ob, h⟩
  · exact .inl (x.fr _ _ h p)
  · exact .inr ⟨m, ob, x.fr _ _ h p⟩
theorem Rd.some' {a : Addr} {o : HO} (h : RdO H a o) : H a ≠ none := by
  rcases h with h | ⟨_, _, h⟩ <;> (rw [h]; exact fun q => nomatch q)
theorem Ext.npool (x : Ext W H W' H') {a : Addr} (h : H a ≠ none) (p : ¬ W.P a) : ¬ W'.P a := fun q => by
  rcases x.np a q with q | n
  · exact p q
  · exact h n
theorem View.ext (x : Ext W H W' H') {v : V} {d : D} (h : View K W H v d) : View K W' H' v d := by
  cases h with
  | rep r => exact .rep (r.le x.le)
  | own h p r => exact .own (rd_ext x h p) (x.npool (Rd.some' h) p) (r.le x.le)
theorem AR.ext (x : Ext W H W' H') : ∀ {ms : List Bool} {vs : List V} {ds : List D}, AR K W H ms vs ds → AR K W' H' ms vs ds
  | _, _, _, .nil => .nil
  | _, _, _, .sh r t => .sh (r.le x.le) (AR.ext x t)
  | _, _, _, .bo r t => .bo (r.ext x) (AR.ext x t)
theorem AR.len : ∀ {ms : List Bool} {vs : List V} {ds : List D}, AR K W H ms vs ds → vs.length = ms.length ∧ ds.length = ms.length
  | _, _, _, .nil => ⟨rfl, rfl⟩
  | _, _, _, .sh _ t => ⟨congrArg (· + 1) (AR.len t).1, congrArg (· + 1) (AR.len t).2⟩
  | _, _, _, .bo _ t => ⟨congrArg (· + 1) (AR.len t).1, congrArg (· + 1) (AR.len t).2⟩
theorem AR.reps : ∀ {ms : List Bool} {vs : List V} {ds : List D}, AR K W H ms vs ds → ms.all id = true → Reps K W vs ds
  | _, _, _, .nil, _ => .nil
  | _, _, _, .sh r t, h => .cons r (AR.reps t (by simpa using h))
  | _, _, _, .bo _ _, h => by simp at h
/-- a flat tree that is read is kept for good -/
theorem View.rep_flat {v : V} {d : D} (h : View K W H v d) (f : d.flat = true) : Rep K W v d := by
  cases h with
  | rep r => exact r
  | own _ _ r =>
    cases r with
    | lst _ => cases f
    | dk _ => cases f
    | dn _ => cases f
end

/-! ### the state -/
structure Ctx where
  W0 : Wd
  H0 : Hp
  Lk : List (Addr × Obj × HO)
structure Glo (C : Ctx) (W : Wd) (H : Hp) : Prop where
  le : C.W0.Le W
  nb : ∀ a o, W.B a = some o → C.W0.B a = some o ∨ C.H0 a = none
  np : ∀ a, W.P a → C.W0.P a ∨ C.H0 a = none
  holds : Holds W H
  h0 : Holds C.W0 C.H0
  fr : ∀ a o, C.H0 a = some o → ¬ C.W0.P a → H a = some o ∨ ∃ ob, (a, ob, o) ∈ C.Lk
  lk : ∀ x ∈ C.Lk, H x.1 = some (.frz x.2.1 x.2.2) ∧ Lkb x.2.2
  ex : ∀ a o, W.B a = some o → H a = some o ∨ (∃ ob, (a, ob, o) ∈ C.Lk) ∨ ∃ ob, C.H0 a = some (.frz ob o) ∧ ¬ C.W0.P a
def CelOk (K : PySem.W.Frag) (C : Ctx) (W : Wd) (H : Hp) (s : Option (Option V)) : Cel → Prop
  | .no => True
  | .sh d => ∃ v, s = some (some v) ∧ Rep K W v d
  | .bo d => ∃ v, s = some (some v) ∧ (Rep K W v d ∨ ∃ a o, v = .ref a ∧ RdO C.H0 a o ∧ ¬ C.W0.P a ∧ RepO K W o d)
  | .ow a d => s = some (some (.ref a)) ∧ C.H0 a = none ∧ W.B a = none ∧ ¬ W.P a ∧ ∃ o, H a = some o ∧ RepO K W o d
structure Sta (K : PySem.W.Frag) (C : Ctx) (Γ : Gam) (σ : L2.St) (W : Wd) (H : Hp) : Prop where
  glo : Glo C W H
  len : Γ.length = σ.length
  cel : ∀ (i : Nat) (c : Cel), Γ[i]? = some c → CelOk K C W H σ[i]? c
  ap : ∀ (i j a b : Nat) (d e : D), Γ[i]? = some (.ow a d) → Γ[j]? = some (.ow b e) → i ≠ j → a ≠ b
section
variable {K : PySem.W.Frag} {C : Ctx} {Γ : Gam} {σ : L2.St} {W W' : Wd} {H H' : Hp}
theorem Glo.nn (g : Glo C W H) {a : Addr} (n : H a = none) : C.H0 a = none := by
  cases e : C.H0 a with
  | none => rfl
  | some o =>
    by_cases p : C.W0.P a
    · exact absurd n (g.holds.ne (g.le.p a p))
    · rcases g.fr a o e p with q | ⟨ob, q⟩
      · rw [q] at n; cases n
      · rw [(g.lk _ q).1] at n; cases n
theorem Glo.npool (g : Glo C W H) {a : Addr} {o : HO} (e : C.H0 a = some o) (p : ¬ C.W0.P a) : ¬ W.P a := fun q => by
  rcases g.np a q with q | n
  · exact p q
  · rw [n] at e; cases e
theorem Glo.rd (g : Glo C W H) {a : Addr} {o : HO} (h : RdO C.H0 a o) (p : ¬ C.W0.P a) : RdO H a o ∧ ¬ W.P a := by
  rcases h with h | ⟨m, ob, h⟩
  · refine ⟨?_, g.npool h p⟩
    rcases g.fr a o h p with q | ⟨ob, q⟩
    · exact .inl q
    · exact .inr ⟨(g.lk _ q).2, ob, (g.lk _ q).1⟩
  · refine ⟨?_, g.npool h p⟩
    rcases g.fr a _ h p with q | ⟨oc, q⟩
    · exact .inr ⟨m, ob, q⟩
    · exact (g.lk _ q).2.1.elim
theorem Glo.ext (g : Glo C W H) (x : Ext W H W' H') : Glo C W' H' where
  le := g.le.trans x.le
  nb := fun a o e => by
    rcases x.nb a o e with e | ⟨n, _⟩
    · exact g.nb a o e
    · exact .inr (g.nn n)
  np := fun a e => by
    rcases x.np a e with e | n
    · exact g.np a e
    · exact .inr (g.nn n)
  holds := x.holds
  h0 := g.h0
  fr := fun a o e p => by
    rcases g.fr a o e p with q | q
    · exact .inl (x.fr a o q (g.npool e p))
    · exact .inr q
  lk := fun y hy => by
    obtain ⟨e, m⟩ := g.lk y hy
    refine ⟨x.fr _ _ e fun p => ?_, m⟩
    obtain ⟨⟨_, _, _, e', _⟩, _⟩ := g.holds.p _ p
    rw [e'] at e
    cases e
  ex := fun a o e => by
    rcases x.nb a o e with e | ⟨_, e⟩
    · rcases g.ex a o e with q | q
      · exact .inl (x.fr a o q fun p => by rw [(g.holds.p a p).2] at e; cases e)
      · exact .inr q
    · exact .inl e
theorem Glo.out (g : Glo C W H) (h : C.Lk = []) : Ext C.W0 C.H0 W H where
  le := g.le
  nb := fun a o e => by
    rcases g.nb a o e with q | n
    · exact .inl q
    · rcases g.ex a o e with q | ⟨ob, q⟩ | ⟨ob, q, _⟩
      · exact .inr ⟨n, q⟩
      · rw [h] at q; cases q
      · rw [n] at q; cases q
  np := g.np
  holds := g.holds
  fr := fun a o e p => by
    rcases g.fr a o e p with q | ⟨_, q⟩
    · exact q
    · rw [h] at q; cases q
theorem CelOk.ext (g : Glo C W H) (x : Ext W H W' H') {s : Option (Option V)} {c : Cel} (h : CelOk K C W H s c) : CelOk K C W' H' s c := by
  cases c with
  | no => trivial
  | sh d => obtain ⟨v, e, r⟩ := h; exact ⟨v, e, r.le x.le⟩
  | bo d =>
    obtain ⟨v, e, r | ⟨a, o, e1, r, p, q⟩⟩ := h
    · exact ⟨v, e, .inl (r.le x.le)⟩
    · exact ⟨v, e, .inr ⟨a, o, e1, r, p, q.le x.le⟩⟩
  | ow a d =>
    obtain ⟨e, h0, b, p, o, ho, r⟩ := h
    refine ⟨e, h0, ?_, x.npool (by rw [ho]; exact fun q => nomatch q) p, o, x.fr a o ho p, r.le x.le⟩
    cases q : W'.B a with
    | none => rfl
    | some u =>
      rcases x.nb a u q with q | ⟨n, _⟩
      · rw [b] at q; cases q
      · rw [n] at ho; cases ho
theorem Sta.ext (s : Sta K C Γ σ W H) (x : Ext W H W' H') : Sta K C Γ σ W' H' := ⟨s.glo.ext x, s.len, fun i c e => (s.cel i c e).ext s.glo x, s.ap⟩
theorem Sta.holds (s : Sta K C Γ σ W H) : Holds W H := s.glo.holds
/-- a slot's cell is set -/
theorem Sta.set (s : Sta K C Γ σ W H) {i : Nat} {c : Cel} {v : V} (h : CelOk K C W H (some (some v)) c) (hap : ∀ a d, c = .ow a d → ∀ j b e, Γ[j]? = some (.ow b e) → i ≠ j → a ≠ b) : Sta K C (Γ.set i c) (σ.set i (some v)) W H := by
  refine ⟨s.glo, by rw [List.length_set, List.length_set]; exact s.len, fun j c' e => ?_, fun j k a b d e h1 h2 h3 => ?_⟩
  · by_cases hj : j = i
    · subst hj
      have hl : j < Γ.length := by
        rw [← List.length_set (i := j) (a := c)]
        exact (List.getElem?_eq_some_iff.mp e).1
      rw [List.getElem?_set_self hl] at e
      cases e
      rw [List.getElem?_set_self (by rw [← s.len]; exact hl)]
      exact h
    · rw [List.getElem?_set_ne (Ne.symm hj)] at e ⊢
      exact s.cel j c' e
  · by_cases hj : j = i
    · subst hj
      have hl : j < Γ.length := by
        rw [← List.length_set (i := j) (a := c)]
        exact (List.getElem?_eq_some_iff.mp h1).1
      rw [List.getElem?_set_self hl] at h1
      rw [List.getElem?_set_ne h3] at h2
      exact hap a d (Option.some.inj h1) k b e h2 h3
    · by_cases hk : k = i
      · subst hk
        have hl : k < Γ.length := by
          rw [← List.length_set (i := k) (a := c)]
          exact (List.getElem?_eq_some_iff.mp h2).1
        rw [List.getElem?_set_self hl] at h2
        rw [List.getElem?_set_ne (Ne.symm hj)] at h1
        exact Ne.symm (hap b e (Option.some.inj h2) j a d h1 (Ne.symm h3))
      · rw [List.getElem?_set_ne (Ne.symm hj)] at h1
        rw [List.getElem?_set_ne (Ne.symm hk)] at h2
        exact s.ap j k a b d e h1 h2 h3
theorem Sta.setSh (s : Sta K C Γ σ W H) {i : Nat} {d : D} {v : V} (h : Rep K W v d) : Sta K C (Γ.set i (.sh d)) (σ.set i (some v)) W H := s.set ⟨v, rfl, h⟩ fun a d e => by cases e
/-- a slot's cell is changed, the slot stays -/
theorem Sta.cell (s : Sta K C Γ σ W H) {i : Nat} {c : Cel} (h : ∀ c', Γ[i]? = some c' → CelOk K C W H σ[i]? c) (hap : ∀ a d, c = .ow a d → ∀ j b e, Γ[j]? = some (.ow b e) → i ≠ j → a ≠ b) : Sta K C (Γ.set i c) σ W H := by
  refine ⟨s.glo, by rw [List.length_set]; exact s.len, fun j c' e => ?_, fun j k a b d e h1 h2 h3 => ?_⟩
  · by_cases hj : j = i
    · subst hj
      have hl : j < Γ.length := by
        rw [← List.length_set (i := j) (a := c)]
        exact (List.getElem?_eq_some_iff.mp e).1
      rw [List.getElem?_set_self hl] at e
      cases e
      exact h _ (List.getElem?_eq_getElem hl)
    · rw [List.getElem?_set_ne (Ne.symm hj)] at e
      exact s.cel j c' e
  · by_cases hj : j = i
    · subst hj
      have hl : j < Γ.length := by
        rw [← List.length_set (i := j) (a := c)]
        exact (List.getElem?_eq_some_iff.mp h1).1
      rw [List.getElem?_set_self hl] at h1
      rw [List.getElem?_set_ne h3] at h2
      exact hap a d (Option.some.inj h1) k b e h2 h3
    · by_cases hk : k = i
      · subst hk
        have hl : k < Γ.length := by
          rw [← List.length_set (i := k) (a := c)]
          exact (List.getElem?_eq_some_iff.mp h2).1
        rw [List.getElem?_set_self hl] at h2
        rw [List.getElem?_set_ne (Ne.symm hj)] at h1
        exact Ne.symm (hap b e (Option.some.inj h2) j a d h1 (Ne.symm h3))
      · rw [List.getElem?_set_ne (Ne.symm hj)] at h1
        rw [List.getElem?_set_ne (Ne.symm hk)] at h2
        exact s.ap j k a b d e h1 h2 h3
end

/-- W with the object o at p for good -/
def Wd.put (W : Wd) (p : Addr) (o : HO) : Wd := ⟨upd W.B p o, W.P⟩
section
variable {K : PySem.W.Frag} {W W' : Wd} {H H' : Hp} {p : Addr} {o : HO}
theorem Wd.put_le (n : W.B p = none) : W.Le (W.put p o) := ⟨fun a u e => by show upd W.B p o a = _; rw [upd_ne (ne_of_none e n)]; exact e, fun _ h => h⟩
theorem holds_put (h : Holds W H) (hp : H p = some o) (np : ¬ W.P p) : Holds (W.put p o) H := by
  refine ⟨fun a u e => ?_, fun a q => ?_⟩
  · have e : upd W.B p o a = some u := e
    by_cases ha : a = p
    · subst ha
      rw [upd_same] at e
      cases e
      exact .inl hp
    · rw [upd_ne ha] at e
      exact h.b a u e
  · obtain ⟨q1, q2⟩ := h.p a q
    refine ⟨q1, ?_⟩
    show upd W.B p o a = none
    rw [upd_ne fun e => np (by rw [← e]; exact q)]
    exact q2
/-- a new object is kept for good -/
theorem Ext.put (x : Ext W H W' H') (nH : H p = none) (n : W'.B p = none) (np : ¬ W'.P p) (hp : H' p = some o) : Ext W H (W'.put p o) H' where
  le := x.le.trans (Wd.put_le n)
  nb := fun a u e => by
    have e : upd W'.B p o a = some u := e
    by_cases ha : a = p
    · subst ha
      rw [upd_same] at e
      cases e
      exact .inr ⟨nH, hp⟩
    · rw [upd_ne ha] at e
      exact x.nb a u e
  np := x.np
  holds := holds_put x.holds hp np
  fr := x.fr
theorem RepO.put {d : D} (n : W.B p = none) (r : RepO K W o d) : Rep K (W.put p o) (.ref p) d := by
  have l : W.Le (W.put p o) := Wd.put_le n
  cases r with
  | lst r => exact .lst (show upd W.B p _ p = _ from upd_same) (r.le l)
  | dk r => exact .dk (show upd W.B p _ p = _ from upd_same) (r.le l)
  | dn r => exact .dn (show upd W.B p _ p = _ from upd_same) (r.le l)
theorem New.rep {v : V} {d : D} (x : Ext W H W' H') (n : New K W H W' H' v d) : ∃ W'', Ext W H W'' H' ∧ Rep K W'' v d := by
  rcases n with ⟨_, r⟩ | ⟨p, o, rfl, nH, nB, nP, ho, r⟩
  · exact ⟨W', x, r⟩
  · exact ⟨W'.put p o, x.put nH nB nP ho, r.put nB⟩
/-- a new object in the heap, not yet for good -/
theorem Ext.upd (h : Holds W H) (n : H p = none) : Ext W H W (upd H p o) ∧ W.B p = none ∧ ¬ W.P p := by
  have hB : W.B p = none := by
    cases e : W.B p with
    | none => rfl
    | some u =>
      rcases h.b p u e with q | ⟨_, ob, q⟩ <;> (rw [n] at q; cases q)
  have hP : ¬ W.P p := fun q => h.ne q n
  refine ⟨⟨.refl W, fun _ _ e => .inl e, fun _ e => .inl e, ⟨fun a u e => ?_, fun a q => ?_⟩, fun a u e _ => ?_⟩, hB, hP⟩
  · have ha : a ≠ p := ne_of_none e hB
    rcases h.b a u e with q | ⟨m, ob, q⟩
    · exact .inl (by rw [upd_ne ha]; exact q)
    · exact .inr ⟨m, ob, by rw [upd_ne ha]; exact q⟩
  · have ha : a ≠ p := fun e => hP (by rw [← e]; exact q)
    obtain ⟨⟨x, y, z, e, r⟩, b⟩ := h.p a q
    exact ⟨⟨x, y, z, by rw [upd_ne ha]; exact e, r⟩, b⟩
  · rw [upd_ne (ne_of_none e n)]
    exact e
end

/-! ### what a def promises -/
inductive RK where
  | sh | fr
def Res (K : PySem.W.Frag) (W : Wd) (H : Hp) (W' : Wd) (H' : Hp) (v : V) (d : D) : RK → Prop
  | .sh => Rep K W' v d
  | .fr => New K W H W' H' v d
def SpD (K : PySem.W.Frag) (ms : List Bool) (rk : RK) (S : Spec) : Sp := fun vs H Q _ => ∃ W ds, Holds W H ∧ AR K W H ms vs ds ∧ S.pre ds ∧
  ∀ v d W' H', S.post ds d → Ext W H W' H' → Res K W H W' H' v d rk → Q v H'

/-! ### contexts, in families: a comprehension's block stands in many -/
structure Fam (P : Program) (w : World) (K : PySem.W.Frag) (mg : Str → Option Value) (base : Heap) (N : List Str) (sc : Scope) (k : Nat) where
  ι : Type
  X : ι → Cx
  prog : ∀ i, (X i).prog = P
  w' : ∀ i, (X i).w = w
  K' : ∀ i, (X i).K = K
  mg' : ∀ i, (X i).mg = mg
  base' : ∀ i, (X i).base = base
  N' : ∀ i, (X i).N = N
  sc' : ∀ i, (X i).env.scope = sc
  calm : ∀ i, (X i).calm = true
  room : ∀ i, Room k (X i).A
  nd : N.Nodup
section
variable {P : Program} {w : World} {K : PySem.W.Frag} {mg : Str → Option Value} {base : Heap} {N : List Str} {sc : Scope} {k : Nat}
variable (F : Fam P w K mg base N sc k)
def EX (e : Expr) (we : WE) : Prop := ∃ te : TE, (∀ i, PE (F.X i) e te) ∧ ∀ C Γ σ W H (q : D → Prop) (Q : VK), Sta K C Γ σ W H → we Γ q →
  (∀ v d W' H', q d → Ext W H W' H' → Rep K W' v d → Q v H') → te σ H Q
def EV (e : Expr) (we : WE) : Prop := ∃ te : TE, (∀ i, PE (F.X i) e te) ∧ ∀ C Γ σ W H (q : D → Prop) (Q : VK), Sta K C Γ σ W H → we Γ q →
  (∀ v d W' H', q d → Ext W H W' H' → View K W' H' v d → Q v H') → te σ H Q
def EF (e : Expr) (we : WE) : Prop := ∃ te : TE, (∀ i, PE (F.X i) e te) ∧ ∀ C Γ σ W H (q : D → Prop) (Q : VK), Sta K C Γ σ W H → we Γ q →
  (∀ v d W' H', q d → Ext W H W' H' → New K W H W' H' v d → Q v H') → te σ H Q
/-- what a return hands back -/
def ER (rk : RK) (e : Expr) (we : WE) : Prop := ∃ te : TE, (∀ i, PE (F.X i) e te) ∧ ∀ C Γ σ W H (q : D → Prop) (Q : VK), Sta K C Γ σ W H → we Γ q →
  (∀ v d W' H', q d → W.Le W' → Glo C W' H' → Res K C.W0 C.H0 W' H' v d rk → Q v H') → te σ H Q
def ET (e : Expr) (wt : WT) : Prop := ∃ tt : TT, (∀ i, PT (F.X i) e tt) ∧ ∀ C Γ σ W H (q : Bool → Prop) (Q : Bool → Hp → Prop), Sta K C Γ σ W H → wt Γ q →
  (∀ b W' H', q b → Ext W H W' H' → Q b H') → tt σ H Q
def EW (e : Expr) (wt : WT) : Prop := ∃ tt : TT, (∀ i, PW (F.X i) e tt) ∧ ∀ C Γ σ W H (q : Bool → Prop) (Q : Bool → Hp → Prop), Sta K C Γ σ W H → wt Γ q →
  (∀ b W' H', q b → Ext W H W' H' → Q b H') → tt σ H Q
def EA (ms : List Bool) (es : List Expr) (wa : WA) : Prop := ∃ ta : TA, (∀ i, PA (F.X i) es ta) ∧ ∀ C Γ σ W H (q : List D → Prop) (Q : List V → Hp → Prop), Sta K C Γ σ W H → wa Γ q →
  (∀ vs ds W' H', q ds → Ext W H W' H' → AR K W' H' ms vs ds → Q vs H') → ta σ H Q
/-- a target -/
def EG (tg : Expr) (wg : WG) : Prop := ∃ g : TG, (∀ i, PG (F.X i) tg g) ∧ ∀ C Γ σ W H v d (q : Gam → Prop) (Q : L2.St → Hp → Prop), Sta K C Γ σ W H → Rep K W v d → wg d Γ q →
  (∀ Γ' σ' W' H', q Γ' → Ext W H W' H' → Sta K C Γ' σ' W' H' → Q σ' H') → g v σ H Q
/-- what is wanted behind a statement, with the heap -/
structure Tie (C : Ctx) (rk : RK) (Wl : Wd) (E : Ends) (D : DEnds) : Prop where
  nx : ∀ Γ σ W H, D.nx Γ → Wl.Le W → Sta K C Γ σ W H → E.nx σ H
  bk : ∀ Γ σ W H, D.bk Γ → Wl.Le W → Sta K C Γ σ W H → E.bk σ H
  ct : ∀ Γ σ W H, D.ct Γ → Wl.Le W → Sta K C Γ σ W H → E.ct σ H
  rt : ∀ v d W H, D.rt d → Wl.Le W → Glo C W H → Res K C.W0 C.H0 W H v d rk → E.rt v H
def SX (rk : RK) (st : Stmt) (ws : WS) : Prop := ∃ ts : TS, (∀ i, PS (F.X i) st ts) ∧ ∀ C Γ σ W H (E : Ends) (D : DEnds), Sta K C Γ σ W H → ws D Γ → Tie (K := K) C rk W E D → ts E σ H
def SXs (rk : RK) (st : List Stmt) (ws : WS) : Prop := ∃ ts : TS, (∀ i, PSs (F.X i) st ts) ∧ ∀ C Γ σ W H (E : Ends) (D : DEnds), Sta K C Γ σ W H → ws D Γ → Tie (K := K) C rk W E D → ts E σ H
end

/-! ### a def -/
section
variable {P : Program} {w : World} {K : PySem.W.Frag} {mg : Str → Option Value} {base : Heap}
theorem startD_len : ∀ {ms : List Bool} {ds : List D} {n : Nat}, ds.length = ms.length → (startD ms ds n).length = ms.length + n
  | [], [], n, _ => by simp [startD]
  | true :: ms, d :: ds, n, h => by
    show (startD ms ds n).length + 1 = _
    rw [startD_len (by simpa using h), List.length_cons]
    omega
  | false :: ms, d :: ds, n, h => by
    show (startD ms ds n).length + 1 = _
    rw [startD_len (by simpa using h), List.length_cons]
    omega
theorem start_cel {W : Wd} {H : Hp} {W0 : Wd} {H0 : Hp} {Lk : List (Addr × Obj × HO)} (hw : Holds W H) : ∀ {ms : List Bool} {vs : List V} {ds : List D} {n : Nat} {i : Nat} {c : Cel}, AR K W H ms vs ds → (startD ms ds n)[i]? = some c →
    CelOk K ⟨W, H, Lk⟩ W H (vs.map some ++ List.replicate n none)[i]? c ∧ ∀ a d, c ≠ .ow a d
  | _, _, _, n, i, c, .nil, e => by
    have e' : (List.replicate n Cel.no)[i]? = some c := e
    rw [List.getElem?_replicate] at e'
    split at e'
    · cases e'
      exact ⟨trivial, fun _ _ q => nomatch q⟩
    · cases e'
  | _, _, _, n, 0, c, .sh (v := v) r t, e => by
    cases e
    exact ⟨⟨v, rfl, r⟩, fun _ _ q => nomatch q⟩
  | _, _, _, n, 0, c, .bo (v := v) r t, e => by
    cases e
    refine ⟨⟨v, rfl, ?_⟩, fun _ _ q => nomatch q⟩
    cases r with
    | rep r => exact .inl r
    | own h p r => exact .inr ⟨_, _, rfl, h, p, r⟩
  | _, _, _, n, i + 1, c, .sh (v := v) r t, e => start_cel (W0 := W0) (H0 := H0) (i := i) hw t e
  | _, _, _, n, i + 1, c, .bo (v := v) r t, e => start_cel (W0 := W0) (H0 := H0) (i := i) hw t e
theorem Fun.nd {N ps : List Str} {sc : Scope} (S : FnScope N ps sc) : N.Nodup := S.nd
/-- a def's body, its context -/
def Fam.ofDef (x qual : Str) (st : Stmt) {N ps : List Str} (S : FnScope N ps (defScope st)) (f : Addr) (cdv : Value) (A : Around) (outer : List Env) (s : Shared) (H : Hp) (E : XK) {k : Nat}
    (hr : Room k (A.deeper (envOfC qual (defScope st) s.heap.objs.size f cdv))) : Fam P w K mg base N (defScope st) k where
  ι := Unit
  X := fun _ => (cxOf CX0 P w K mg base N qual (defScope st) f cdv A outer s H E).nox
  prog := fun _ => rfl
  w' := fun _ => rfl
  K' := fun _ => rfl
  mg' := fun _ => rfl
  base' := fun _ => rfl
  N' := fun _ => rfl
  sc' := fun _ => rfl
  calm := fun _ => rfl
  room := fun _ => hr
  nd := S.nd
/-- THE RULE for a def -/
theorem def_ok {x qual : Str} {st : Stmt} {f : Addr} {fd : FuncData} {N ps : List Str} {k : Nat} (F : Fun K x qual st f fd) (S : FnScope N ps (defScope st)) (ms : List Bool) (rk : RK) (sp : Spec) (b : WS) (hm : ms.length = ps.length)
    (body : ∀ (cdv : Value) (A : Around) (outer : List Env) (s : Shared) (H : Hp) (E : XK) (hr : Room k (A.deeper (envOfC qual (defScope st) s.heap.objs.size f cdv))),
      SXs (Fam.ofDef (P := P) (w := w) (K := K) (mg := mg) (base := base) x qual st S f cdv A outer s H E hr) rk (defBody st) b)
    (vc : ∀ ds, ds.length = ms.length → sp.pre ds → b { nx := fun _ => sp.post ds .non, rt := sp.post ds } (startD ms ds (N.length - ps.length))) : FnOk P w K mg base CX0 (k + 1) f fd ps (SpD K ms rk sp) := by
  refine F.ok S (fun vs H Q E h => ?_) (fun cdv A outer s H vs Q E hr h => ?_)
  · obtain ⟨W, ds, _, ar, _⟩ := h
    rw [ar.len.1, hm]
  · obtain ⟨W, ds, hw, ar, pre, post⟩ := h
    obtain ⟨ts, hts, hq⟩ := body cdv A outer s H E hr
    have hps : ps.length = (N.take ps.length).length := by rw [S.pre]
    have hle : ps.length ≤ N.length := by rw [List.length_take] at hps; omega
    have hl := ar.len
    refine ⟨ts, hts (), hq ⟨W, H, []⟩ (startD ms ds (N.length - ps.length)) (start N vs) W H _ { nx := fun _ => sp.post ds .non, rt := sp.post ds } ?_ (vc ds hl.2 pre) ?_⟩
    · have hn : N.length - vs.length = N.length - ps.length := by rw [hl.1, hm]
      refine ⟨⟨.refl W, fun _ _ e => .inl e, fun _ e => .inl e, hw, hw, fun _ _ e _ => .inl e, fun x hx => (nomatch hx), fun a o e => ?_⟩, ?_, fun i c e => ?_, fun i j a b' d e h1 => ?_⟩
      · rcases hw.b a o e with q | ⟨_, ob, q⟩
        · exact .inl q
        · exact .inr (.inr ⟨ob, q, fun p => by rw [(hw.p a p).2] at e; cases e⟩)
      · rw [startD_len hl.2]
        show ms.length + _ = (vs.map some ++ List.replicate (N.length - vs.length) none).length
        rw [List.length_append, List.length_map, List.length_replicate, hn, hl.1]
      · show CelOk K _ W H (vs.map some ++ List.replicate (N.length - vs.length) none)[i]? c
        rw [hn]
        exact (start_cel (W0 := W) (H0 := H) hw ar e).1
      · exact absurd rfl ((start_cel (Lk := []) (W0 := W) (H0 := H) hw ar h1).2 a d)
    · refine ⟨fun Γ σ W' H' q _ s' => ?_, fun _ _ _ _ q => q.elim, fun _ _ _ _ q => q.elim, fun v d W' H' q _ g r => ?_⟩
      · refine post .non .non W' H' q (s'.glo.out rfl) ?_
        cases rk with
        | sh => exact .non
        | fr => exact .inl ⟨rfl, .non⟩
      · exact post v d W' H' q (g.out rfl) r
end
end DL

/-! DNest: dicts whose keys are nested tuples. -/
namespace DL
open PySem PySem.Spec PyProof.Rows L2
variable [WW]
/-! ### keys as trees -/
mutual
theorem nk_eqv : ∀ (x y : D) (n m : Nat), x.nb n = true → y.nb m = true → x.eqv y = decide (nk x = nk y)
  | .tup xs, .tup ys, n + 1, m + 1, hx, hy => by
    have hx : D.nbs n xs = true := hx
    have hy : D.nbs m ys = true := hy
    show D.eqvs xs ys = _
    rw [nks_eqv xs ys n m hx hy]
    exact decide_eq_decide.mpr ⟨fun e => by show NestedKey.tup _ = .tup _; rw [e], fun e => NestedKey.tup.inj e⟩
  | .tup xs, y, 0, _, hx, _ => by cases hx
  | x, .tup ys, _, 0, _, hy => by cases hy
  | .tup xs, .non, n + 1, m, _, _ => rfl
  | .tup xs, .int _, n + 1, m, _, _ => rfl
  | .tup xs, .str _, n + 1, m, _, _ => rfl
  | .non, .tup _, n, m + 1, _, _ => rfl
  | .int _, .tup _, n, m + 1, _, _ => rfl
  | .str _, .tup _, n, m + 1, _, _ => rfl
  | .non, .non, _, _, _, _ => rfl
  | .non, .int _, _, _, _, _ => rfl
  | .non, .str _, _, _, _, _ => rfl
  | .int _, .non, _, _, _, _ => rfl
  | .str _, .non, _, _, _, _ => rfl
  | .int _, .str _, _, _, _, _ => rfl
  | .str _, .int _, _, _, _, _ => rfl
  | .int i, .int j, _, _, _, _ => by
    show (i == j) = _
    rw [Bool.beq_eq_decide_eq]
    exact decide_eq_decide.mpr ⟨fun e => by rw [e], fun e => NestedKey.num.inj e⟩
  | .str s, .str t, _, _, _, _ => by
    show (s == t) = _
    rw [Bool.beq_eq_decide_eq]
    refine decide_eq_decide.mpr ⟨fun e => by rw [e], fun e => ?_⟩
    have e1 : S s = S t := NestedKey.text.inj e
    have e2 := congrArg (fun z : Str => z.cps.toList) e1
    simpa [S] using e2
  | .bl _, _, 0, _, hx, _ => by cases hx
  | .bl _, _, _ + 1, _, hx, _ => by cases hx
  | .lst _, _, 0, _, hx, _ => by cases hx
  | .lst _, _, _ + 1, _, hx, _ => by cases hx
  | .dic _, _, 0, _, hx, _ => by cases hx
  | .dic _, _, _ + 1, _, hx, _ => by cases hx
  | .tok, _, 0, _, hx, _ => by cases hx
  | .tok, _, _ + 1, _, hx, _ => by cases hx
  | .scr _, _, 0, _, hx, _ => by cases hx
  | .scr _, _, _ + 1, _, hx, _ => by cases hx
  | .dit _, _, 0, _, hx, _ => by cases hx
  | .dit _, _, _ + 1, _, hx, _ => by cases hx
  | _, .bl _, _, 0, _, hy => by cases hy
  | _, .bl _, _, _ + 1, _, hy => by cases hy
  | _, .lst _, _, 0, _, hy => by cases hy
  | _, .lst _, _, _ + 1, _, hy => by cases hy
  | _, .dic _, _, 0, _, hy => by cases hy
  | _, .dic _, _, _ + 1, _, hy => by cases hy
  | _, .tok, _, 0, _, hy => by cases hy
  | _, .tok, _, _ + 1, _, hy => by cases hy
  | _, .scr _, _, 0, _, hy => by cases hy
  | _, .scr _, _, _ + 1, _, hy => by cases hy
  | _, .dit _, _, 0, _, hy => by cases hy
  | _, .dit _, _, _ + 1, _, hy => by cases hy
theorem nks_eqv : ∀ (xs ys : List D) (n m : Nat), D.nbs n xs = true → D.nbs m ys = true → D.eqvs xs ys = decide (nks xs = nks ys)
  | [], [], _, _, _, _ => by show true = _; rw [decide_eq_true rfl]
  | [], _ :: _, _, _, _, _ => rfl
  | _ :: _, [], _, _, _, _ => rfl
  | x :: xs, y :: ys, n, m, hx, hy => by
    have hx : (D.nb n x && D.nbs n xs) = true := by cases n <;> simpa [D.nbs] using hx
    have hy : (D.nb m y && D.nbs m ys) = true := by cases m <;> simpa [D.nbs] using hy
    rw [Bool.and_eq_true] at hx hy
    show (D.eqv x y && D.eqvs xs ys) = _
    rw [nk_eqv x y n m hx.1 hy.1, nks_eqv xs ys n m hx.2 hy.2, Bool.eq_iff_iff, Bool.and_eq_true, decide_eq_true_eq, decide_eq_true_eq, decide_eq_true_eq]
    exact ⟨fun ⟨e1, e2⟩ => by show nk x :: nks xs = nk y :: nks ys; rw [e1, e2], fun e => List.cons.inj e⟩
end
theorem nkey_nb {x : D} (h : x.nkey = true) : x.nb 8 = true := by
  cases x <;> first | exact h | cases h
theorem nkey_eqv {x y : D} (hx : x.nkey = true) (hy : y.nkey = true) : x.eqv y = decide (nk x = nk y) := nk_eqv x y 8 8 (nkey_nb hx) (nkey_nb hy)
mutual
theorem nk_depth : ∀ (x : D) (n : Nat), x.nb n = true → (nk x).depth ≤ n
  | .tup xs, n + 1, h => by
    have := nks_depth xs n h
    show NestedKey.depthAll (nks xs) + 1 ≤ n + 1
    omega
  | .tup _, 0, h => by cases h
  | .non, _, _ => Nat.zero_le _
  | .int _, _, _ => Nat.zero_le _
  | .str _, _, _ => Nat.zero_le _
  | .bl _, _, _ => Nat.zero_le _
  | .lst _, _, _ => Nat.zero_le _
  | .dic _, _, _ => Nat.zero_le _
  | .tok, _, _ => Nat.zero_le _
  | .scr _, _, _ => Nat.zero_le _
  | .dit _, _, _ => Nat.zero_le _
theorem nks_depth : ∀ (xs : List D) (n : Nat), D.nbs n xs = true → NestedKey.depthAll (nks xs) ≤ n
  | [], _, _ => Nat.zero_le _
  | x :: xs, n, h => by
    have h : (D.nb n x && D.nbs n xs) = true := by cases n <;> simpa [D.nbs] using h
    rw [Bool.and_eq_true] at h
    have a := nk_depth x n h.1
    have b := nks_depth xs n h.2
    show max (nk x).depth (NestedKey.depthAll (nks xs)) ≤ n
    omega
end
section
variable {X : Cx} {pins : List (Addr × Obj)} {σ : L2.St} {H : Hp} {s : Shared} {W : Wd}
mutual
/-- a tree of tuples is a key of the kit -/
theorem nested_of (I : L2.Inv X pins σ H s) (hw : Holds W H) : ∀ {d : D} {v : V} {n : Nat} {u : Value}, Rep X.K W v d → d.nb n = true → L2.RelV v u → NestedIs s.heap (nk d) u
  | _, _, _, _, .non, _, e => by cases (show _ = Value.none from e); exact .none
  | _, _, _, _, .int i, _, e => by obtain ⟨t, rfl⟩ := e; exact .int i t
  | _, _, _, _, .str x, _, e => by obtain ⟨t, rfl⟩ := e; exact .text _ t
  | .tup ds, _, n + 1, _, .tup q r, h, e => by
    cases (show _ = Value.ref _ from e)
    obtain ⟨its, rv, ⟨o, ho, hc, m, hd⟩, _⟩ := I.tuple (hw.seqT q)
    exact .tup ho hc hd (by rw [show (its.toArray).toList = its from List.toList_toArray]; exact nesteds_of I hw r (show D.nbs n ds = true from h) rv)
  | _, _, 0, _, .tup _ _, h, _ => by cases h
  | _, _, 0, _, .bl _, h, _ => by cases h
  | _, _, _ + 1, _, .bl _, h, _ => by cases h
  | _, _, 0, _, .lst _ _, h, _ => by cases h
  | _, _, _ + 1, _, .lst _ _, h, _ => by cases h
  | _, _, 0, _, .scr _ _, h, _ => by cases h
  | _, _, _ + 1, _, .scr _ _, h, _ => by cases h
  | _, _, 0, _, .dk _ _, h, _ => by cases h
  | _, _, _ + 1, _, .dk _ _, h, _ => by cases h
  | _, _, 0, _, .tok _, h, _ => by cases h
  | _, _, _ + 1, _, .tok _, h, _ => by cases h
  | _, _, 0, _, .dn _ _, h, _ => by cases h
  | _, _, _ + 1, _, .dn _ _, h, _ => by cases h
theorem nesteds_of (I : L2.Inv X pins σ H s) (hw : Holds W H) : ∀ {ds : List D} {vs : List V} {n : Nat} {us : List Value}, Reps X.K W vs ds → D.nbs n ds = true → Vals vs us → NestedAll s.heap (nks ds) us
  | _, _, _, _, .nil, _, .nil => .nil
  | d :: ds, _, n, _, .cons r t, h, .cons e et => by
    have h : (D.nb n d && D.nbs n ds) = true := by cases n <;> simpa [D.nbs] using h
    rw [Bool.and_eq_true] at h
    exact .cons (nested_of I hw r h.1 e) (nesteds_of I hw t h.2 et)
end
/-- a tuple key in the heap -/
theorem nkey_is (I : L2.Inv X pins σ H s) (hw : Holds W H) {p : Addr} {d : D} (r : Rep X.K W (.ref p) d) (h : d.nkey = true) : (nestedKind X.prog X.w).is s.heap (nk d) p :=
  ⟨nested_of I hw r (nkey_nb h) (show L2.RelV (.ref p) (.ref p) from rfl), nk_depth d 8 (nkey_nb h)⟩
end

/-! ### the object -/
theorem nd_stab {a : Addr} {xs : List NE} {h1 h2 : Heap} (x : NdAt a xs h1) (k : ∀ o, h1.get? a = some o → h2.get? a = some o) : NdAt a xs h2 := by
  obtain ⟨z, hs, ys, pr, o, es, ep, ho, r⟩ := x
  exact ⟨z, hs, ys, pr, o, es, ep, k o ho, r⟩
theorem nd_okO {P : Program} {w : World} {H : Hp} {h : Heap} {a : Addr} {xs : List NE} (x : NdAt a xs h) : ObjOk P w H h a (NdO a xs) := by
  obtain ⟨z, hs, ys, pr, o, es, ep, ho, r⟩ := id x
  exact ⟨x, ⟨o, ho⟩, fun h1 h2 q k => nd_stab q k⟩
theorem nd_addr {P : Program} {w : World} {H : Hp} {h : Heap} {a b : Addr} {xs : List NE} (x : ObjOk P w H h a (NdO b xs)) : b = a ∧ NdAt a xs h := by
  obtain ⟨p, ⟨o, e⟩, st⟩ := (show NdAt b xs h ∧ _ from x)
  by_cases hb : b = a
  · subst hb; exact ⟨rfl, p⟩
  · have q := st h (h.update b fun o => { o with data := .plain }) p fun o q => (Heap.get?_update_other h _ hb).trans q
    obtain ⟨_, _, _, _, o1, _, _, ho1, _⟩ := p
    obtain ⟨_, _, _, _, o2, _, _, ho2, _, hd2, _⟩ := q
    rw [Heap.get?_update_self (fun o => { o with data := .plain }) ho1 rfl] at ho2
    cases ho2
    cases hd2
theorem lkb_nd {b : Addr} {xs : List NE} : Lkb (NdO b xs) := ⟨trivial, fun _ e => nomatch e⟩

/-! ### entries -/
def putN (xs : List NE) (k : NestedKey) (p : Addr) (v : V) : List NE := if (xs.any fun x => decide (x.1 = k)) = true then xs.map (fun x => if x.1 = k then (x.1, x.2.1, v) else x) else xs ++ [(k, p, v)]
def dropN (xs : List NE) (k : NestedKey) : List NE := xs.filter fun x => decide (x.1 ≠ k)
section
variable {K : PySem.W.Frag} {W : Wd}
theorem RepN.length : ∀ {xs : List NE} {es : List (D × D)}, RepN K W xs es → xs.length = es.length
  | _, _, .nil => rfl
  | _, _, .cons _ _ _ _ r => congrArg (· + 1) (RepN.length r)
theorem RepN.append : ∀ {xs ys : List NE} {es fs : List (D × D)}, RepN K W xs es → RepN K W ys fs → RepN K W (xs ++ ys) (es ++ fs)
  | _, _, _, _, .nil, s => s
  | _, _, _, _, .cons a b c d r, s => .cons a b c d (RepN.append r s)
theorem paired_len {α β : Type} {F : α → β → Prop} : ∀ {xs : List α} {ys : List β}, Paired F xs ys → xs.length = ys.length
  | _, _, .nil => rfl
  | _, _, .cons _ r => congrArg (· + 1) (paired_len r)
theorem paired_app {α β : Type} {F : α → β → Prop} : ∀ {xs us : List α} {ys vs : List β}, Paired F xs ys → Paired F us vs → Paired F (xs ++ us) (ys ++ vs)
  | _, _, _, _, .nil, s => s
  | _, _, _, _, .cons a r, s => .cons a (paired_app r s)
/-- what stands at a key -/
theorem RepN.look {q : D} (hq : q.nkey = true) : ∀ {xs : List NE} {es : List (D × D)} {ys : List (NestedKey × Addr × Value)}, RepN K W xs es → Paired NRel xs ys →
    (∀ d, look es q = some d → ∃ p v u, atKey ys (nk q) = some (p, u) ∧ L2.RelV v u ∧ Rep K W v d) ∧ (DL.look es q = none → atKey ys (nk q) = none)
  | _, _, _, .nil, .nil => ⟨fun d e => (by cases e), fun _ => rfl⟩
  | (k, p, v) :: xs, (q', d) :: es, (k', p', u) :: ys, .cons r1 n1 e1 r2 r, .cons ⟨f1, f2, f3⟩ pr => by
    obtain ⟨h1, h2⟩ := RepN.look hq r pr
    have f1 : k = k' := f1
    have f2 : p = p' := f2
    have f3 : L2.RelV v u := f3
    subst f1 f2
    have ee := nkey_eqv n1 hq
    unfold DL.look atKey at *
    rw [List.find?_cons, List.find?_cons]
    by_cases hk : nk q' = nk q
    · rw [show (q', d).1.eqv q = true by rw [ee]; exact decide_eq_true hk, show decide (((k, p, u) : NestedKey × Addr × Value).1 = nk q) = true from decide_eq_true (e1.trans hk)]
      exact ⟨fun d' e => ⟨p, v, u, rfl, f3, by cases e; exact r2⟩, fun e => by cases e⟩
    · rw [show (q', d).1.eqv q = false by rw [ee]; exact decide_eq_false hk, show decide (((k, p, u) : NestedKey × Addr × Value).1 = nk q) = false from decide_eq_false fun z => hk (e1.symm.trans z)]
      exact ⟨h1, h2⟩
theorem RepN.isSome {q : D} (hq : q.nkey = true) {xs : List NE} {es : List (D × D)} {ys : List (NestedKey × Addr × Value)} (r : RepN K W xs es) (pr : Paired NRel xs ys) : (atKey ys (nk q)).isSome = (DL.look es q).isSome := by
  obtain ⟨h1, h2⟩ := r.look hq pr
  cases e : DL.look es q with
  | none => rw [h2 e]; rfl
  | some d => obtain ⟨p, v, u, e', _⟩ := h1 d e; rw [e']; rfl
theorem any_isSome (k : NestedKey) : ∀ {xs : List NE} {ys : List (NestedKey × Addr × Value)}, Paired NRel xs ys → (xs.any fun x => decide (x.1 = k)) = (atKey ys k).isSome
  | _, _, .nil => rfl
  | (k1, p, v) :: xs, (k2, p2, u) :: ys, .cons ⟨f1, _, _⟩ pr => by
    have f1 : k1 = k2 := f1
    subst f1
    have ih := any_isSome k pr
    unfold atKey at *
    rw [List.any_cons, List.find?_cons]
    by_cases hk : k1 = k
    · rw [show decide (((k1, p, v) : NE).1 = k) = true from decide_eq_true hk]; rfl
    · rw [show decide (((k1, p, v) : NE).1 = k) = false from decide_eq_false hk, Bool.false_or]; exact ih
theorem RepN.map_put {q : D} (hq : q.nkey = true) {v : V} {d : D} (h : Rep K W v d) : ∀ {xs : List NE} {es : List (D × D)}, RepN K W xs es →
    RepN K W (xs.map fun x => if x.1 = nk q then (x.1, x.2.1, v) else x) (es.map fun p => if p.1.eqv q then (p.1, d) else p)
  | _, _, .nil => .nil
  | (k, p, u) :: xs, (q', z) :: es, .cons r1 n1 e1 r2 r => by
    rw [List.map_cons, List.map_cons]
    have ee := nkey_eqv n1 hq
    by_cases hk : nk q' = nk q
    · rw [if_pos (show ((k, p, u) : NE).1 = nk q from e1.trans hk), if_pos (show (q', z).1.eqv q = true by rw [ee]; exact decide_eq_true hk)]
      exact .cons r1 n1 e1 h (RepN.map_put hq h r)
    · rw [if_neg (show ¬ ((k, p, u) : NE).1 = nk q from fun e => hk (e1.symm.trans e)), if_neg (show ¬ (q', z).1.eqv q = true by rw [ee, decide_eq_false hk]; decide)]
      exact .cons r1 n1 e1 r2 (RepN.map_put hq h r)
theorem paired_put (k : NestedKey) {v : V} {u : Value} (h : L2.RelV v u) : ∀ {xs : List NE} {ys : List (NestedKey × Addr × Value)}, Paired NRel xs ys → Paired NRel (xs.map fun x => if x.1 = k then (x.1, x.2.1, v) else x) (ys.map (putAt k u))
  | _, _, .nil => .nil
  | (k1, p, v1) :: xs, (k2, p2, u2) :: ys, .cons ⟨f1, f2, f3⟩ pr => by
    have f1 : k1 = k2 := f1
    subst f1
    rw [List.map_cons, List.map_cons]
    refine .cons ?_ (paired_put k h pr)
    unfold putAt
    by_cases hk : k1 = k
    · rw [if_pos (show ((k1, p, v1) : NE).1 = k from hk), if_pos (show ((k1, p2, u2) : NestedKey × Addr × Value).1 = k from hk)]; exact ⟨rfl, f2, h⟩
    · rw [if_neg (show ¬ ((k1, p, v1) : NE).1 = k from hk), if_neg (show ¬ ((k1, p2, u2) : NestedKey × Addr × Value).1 = k from hk)]; exact ⟨rfl, f2, f3⟩
theorem RepN.put {q : D} (hq : q.nkey = true) {p : Addr} (rp : Rep K W (.ref p) q) {v : V} {d : D} (h : Rep K W v d) {xs : List NE} {es : List (D × D)} {ys : List (NestedKey × Addr × Value)} (r : RepN K W xs es) (pr : Paired NRel xs ys) : RepN K W (putN xs (nk q) p v) (DL.put es q d) := by
  have e := r.isSome hq pr
  have e2 := any_isSome (nk q) pr
  unfold putN DL.put
  rw [e2, e]
  cases hs : (DL.look es q).isSome with
  | true => rw [if_pos rfl, if_pos rfl]; exact r.map_put hq h
  | false => rw [if_neg (by decide), if_neg (by decide)]; exact r.append (.cons rp hq rfl h .nil)
theorem RepN.any {q : D} (hq : q.nkey = true) : ∀ {xs : List NE} {es : List (D × D)}, RepN K W xs es → (xs.any fun x => decide (x.1 = nk q)) = (DL.look es q).isSome
  | _, _, .nil => rfl
  | (k, p, u) :: xs, (q', z) :: es, .cons r1 n1 e1 r2 r => by
    have ih := RepN.any hq r
    have ee := nkey_eqv n1 hq
    unfold DL.look at *
    rw [List.any_cons, List.find?_cons]
    by_cases hk : nk q' = nk q
    · rw [show (q', z).1.eqv q = true by rw [ee]; exact decide_eq_true hk, show decide (((k, p, u) : NE).1 = nk q) = true from decide_eq_true (e1.trans hk)]; rfl
    · rw [show (q', z).1.eqv q = false by rw [ee]; exact decide_eq_false hk, show decide (((k, p, u) : NE).1 = nk q) = false from decide_eq_false fun e => hk (e1.symm.trans e), Bool.false_or]; exact ih
theorem RepN.put2 {q : D} (hq : q.nkey = true) {p : Addr} (rp : Rep K W (.ref p) q) {v : V} {d : D} (h : Rep K W v d) {xs : List NE} {es : List (D × D)} (r : RepN K W xs es) : RepN K W (putN xs (nk q) p v) (DL.put es q d) := by
  unfold putN DL.put
  rw [r.any hq]
  cases hs : (DL.look es q).isSome with
  | true => rw [if_pos rfl, if_pos rfl]; exact r.map_put hq h
  | false => rw [if_neg (by decide), if_neg (by decide)]; exact r.append (.cons rp hq rfl h .nil)
theorem putN_len {xs : List NE} {k : NestedKey} {p : Addr} {v : V} : (putN xs k p v).length ≤ xs.length + 1 := by
  unfold putN
  split
  · rw [List.length_map]; omega
  · rw [List.length_append]; exact Nat.le_refl _
theorem paired_stored (k : NestedKey) {p : Addr} {v : V} {u : Value} (h : L2.RelV v u) {xs : List NE} {ys : List (NestedKey × Addr × Value)} (pr : Paired NRel xs ys) : Paired NRel (putN xs k p v) (storedH ys k p u) := by
  unfold putN storedH
  rw [any_isSome k pr]
  cases (atKey ys k).isSome with
  | true => rw [if_pos rfl, if_pos rfl]; exact paired_put k h pr
  | false => rw [if_neg (by decide), if_neg (by decide)]; exact paired_app pr (.cons ⟨rfl, rfl, h⟩ .nil)
theorem RepN.drop {q : D} (hq : q.nkey = true) : ∀ {xs : List NE} {es : List (D × D)}, RepN K W xs es → RepN K W (dropN xs (nk q)) (DL.drop es q)
  | _, _, .nil => .nil
  | (k, p, u) :: xs, (q', z) :: es, .cons r1 n1 e1 r2 r => by
    have ih := RepN.drop hq r
    have ee := nkey_eqv n1 hq
    unfold dropN DL.drop at ih ⊢
    rw [List.filter_cons, List.filter_cons]
    by_cases hk : nk q' = nk q
    · rw [if_neg (show ¬ decide (((k, p, u) : NE).1 ≠ nk q) = true by simp [e1.trans hk]), if_neg (show ¬ (!(q', z).1.eqv q) = true by rw [ee, decide_eq_true hk]; decide)]
      exact ih
    · rw [if_pos (show decide (((k, p, u) : NE).1 ≠ nk q) = true by simp; exact fun e => hk (e1.symm.trans e)), if_pos (show (!(q', z).1.eqv q) = true by rw [ee, decide_eq_false hk]; rfl)]
      exact .cons r1 n1 e1 r2 ih
theorem paired_without (k : NestedKey) : ∀ {xs : List NE} {ys : List (NestedKey × Addr × Value)}, Paired NRel xs ys → Paired NRel (dropN xs k) (withoutH ys k)
  | _, _, .nil => .nil
  | (k1, p, v1) :: xs, (k2, p2, u2) :: ys, .cons ⟨f1, f2, f3⟩ pr => by
    have f1 : k1 = k2 := f1
    subst f1
    have ih := paired_without k pr
    unfold dropN withoutH at ih ⊢
    rw [List.filter_cons, List.filter_cons]
    by_cases hk : k1 = k
    · rw [if_neg (show ¬ decide (((k1, p, v1) : NE).1 ≠ k) = true by simp [hk]), if_neg (show ¬ decide (((k1, p2, u2) : NestedKey × Addr × Value).1 ≠ k) = true by simp [hk])]
      exact ih
    · rw [if_pos (show decide (((k1, p, v1) : NE).1 ≠ k) = true by simp [hk]), if_pos (show decide (((k1, p2, u2) : NestedKey × Addr × Value).1 ≠ k) = true by simp [hk])]
      exact .cons ⟨rfl, f2, f3⟩ ih
theorem RepN.keyV : ∀ {xs : List NE} {es : List (D × D)}, RepN K W xs es → Reps K W (xs.map fun x => V.ref x.2.1) (es.map (·.1))
  | _, _, .nil => .nil
  | _, _, .cons r1 _ _ _ r => .cons r1 (RepN.keyV r)
end

/-! ### the operations -/
section
variable {X : Cx} {pins : List (Addr × Obj)} {σ : L2.St} {H : Hp} {s : Shared} {W : Wd} [Lk X.w]
theorem nd_dict (I : L2.Inv X pins σ H s) (hw : Holds W H) {a b : Addr} {xs : List NE} {es : List (D × D)} (e : Rd H a (NdO b xs)) (r : RepN X.K W xs es) : b = a ∧ xs.length ≤ sizeLine ∧ (a == sysModules) = false ∧
    ∃ ys, Paired NRel xs ys ∧ s.heap.DictOfH (nestedKind X.prog X.w) a ys := by
  obtain ⟨hb, z, hs, ys, pr, o, es', ep, ho, hx, hd, he, hn⟩ := nd_addr (e.ok I.hok)
  refine ⟨hb, z, hs, ys, pr, o, es', ep, ho, hx, hd, ?_, ?_, hn⟩
  · rw [he]
    refine List.map_congr_left fun y _ => ?_
    show (⟨y.1.hash WW.w, _, _⟩ : DictEntry) = ⟨y.1.hash X.w, _, _⟩
    rw [Lk.e (w := X.w)]
  · clear he hn e z
    have all : ∀ {xs : List NE} {es : List (D × D)} {ys : List (NestedKey × Addr × Value)}, RepN X.K W xs es → Paired NRel xs ys → ∀ y ∈ ys, (nestedKind X.prog X.w).is s.heap y.1 y.2.1 := by
      intro xs es ys r pr
      induction pr generalizing es with
      | nil => intro y hy; cases hy
      | @cons p q ps qs hq t ih =>
        intro y hy
        cases r with
        | cons r1 n1 e1 r2 r =>
          rcases List.mem_cons.mp hy with e | hy
          · subst e
            obtain ⟨g1, g2, _⟩ := hq
            have g1 := g1.symm
            have g2 := g2.symm
            have k := nkey_is I hw r1 n1
            rw [← e1] at k
            rw [g1, g2]
            exact k
          · exact ih r y hy
    exact all r pr
theorem nd_back {h' : Heap} {a : Addr} {xs : List NE} {ys : List (NestedKey × Addr × Value)} (z : xs.length ≤ sizeLine) (hs : (a == sysModules) = false) (pr : Paired NRel xs ys) (hm : h'.DictOfH (nestedKind X.prog X.w) a ys) : NdAt a xs h' := by
  obtain ⟨o, es, ep, ho, hx, hd, he, _, hn⟩ := hm
  refine ⟨z, hs, ys, pr, o, es, ep, ho, hx, hd, ?_, hn⟩
  rw [he]
  refine List.map_congr_left fun y _ => ?_
  show (⟨y.1.hash X.w, _, _⟩ : DictEntry) = ⟨y.1.hash WW.w, _, _⟩
  rw [Lk.e (w := X.w)]
def NRoom (A : Around) : Prop := A.units + 9 < cLine
theorem nd_room {A : Around} (h : NRoom A) : (nestedKind X.prog X.w).room A.in1 := by
  show A.in1.units + 8 < cLine
  rw [Around.in1_units]
  unfold NRoom at h
  omega
/-- y in x -/
def rNIn (K : PySem.W.Frag) (neg : Bool) : R2 := fun y x H Q => ∃ W a b xs es q, x = .ref a ∧ Holds W H ∧ Rd H a (NdO b xs) ∧ RepN K W xs es ∧ Rep K W y q ∧ q.nkey = true ∧ Q (.bl (if neg = true then !(DL.look es q).isSome else (DL.look es q).isSome)) H
theorem key_ref {K : PySem.W.Frag} {y : V} {q : D} (r : Rep K W y q) (h : q.nkey = true) : ∃ p, y = .ref p := by
  cases r <;> first | exact ⟨_, rfl⟩ | cases h
theorem op_nin (hu : NRoom X.A) : OpR X (compareOp .In) (rNIn X.K false) := by
  intro pins s σ H y x v u Q I ry rx h
  obtain ⟨W, a, b, xs, es, q, rfl, hw, e, r, rq, hq, hQ⟩ := h
  obtain ⟨p, rfl⟩ := key_ref rq hq
  cases (show v = Value.ref p from ry)
  cases (show u = Value.ref a from rx)
  obtain ⟨_, z, hs, ys, pr, hm⟩ := nd_dict I hw e r
  refine wpAny_in_heap (nd_room hu) (nkey_is I hw rq hq) hs hm ?_
  rw [r.isSome hq pr]
  exact ⟨.bl _, H, I.tok _, rfl, hQ⟩
theorem op_nnin (hu : NRoom X.A) : OpR X (compareOp .NotIn) (rNIn X.K true) := by
  intro pins s σ H y x v u Q I ry rx h
  obtain ⟨W, a, b, xs, es, q, rfl, hw, e, r, rq, hq, hQ⟩ := h
  obtain ⟨p, rfl⟩ := key_ref rq hq
  cases (show v = Value.ref p from ry)
  cases (show u = Value.ref a from rx)
  obtain ⟨_, z, hs, ys, pr, hm⟩ := nd_dict I hw e r
  show wpAny _ _ (contains (.ref a) (.ref p) >>= fun b => pure (Value.bool (!b))) _ _ _
  refine wpAny_bind (wpAny_contains_heap (nd_room hu) (nkey_is I hw rq hq) hs hm (wpAny_pure ?_))
  rw [r.isSome hq pr]
  exact ⟨.bl _, H, I.tok _, rfl, hQ⟩
/-- x[y] -/
def rNIx (K : PySem.W.Frag) : R2 := fun x y H Q => ∃ W a b xs es q d, x = .ref a ∧ Holds W H ∧ Rd H a (NdO b xs) ∧ RepN K W xs es ∧ Rep K W y q ∧ q.nkey = true ∧ DL.look es q = some d ∧ ∀ v, Rep K W v d → Q v H
theorem ix_nest (hu : NRoom X.A) : IxR X (rNIx X.K) := by
  intro value slice pins s σ H x y v u Q I rx ry h hs
  obtain ⟨W, a, b, xs, es, q, d, rfl, hw, e, r, rq, hq, hl, hQ⟩ := h
  obtain ⟨p, rfl⟩ := key_ref rq hq
  cases (show v = Value.ref a from rx)
  cases (show u = Value.ref p from ry)
  obtain ⟨_, z, hsm, ys, pr, hm⟩ := nd_dict I hw e r
  obtain ⟨p', v', u', ha, rv, rd⟩ := (r.look hq pr).1 d hl
  have hT := hm.typeIs
  unfold subscriptTail
  refine wpAny_bind ?_
  rw [getitemInPython_of_ne hT.not_modules]
  refine wpAny_bind (wpAny_specialOf hT PySem.F.slot_dict_getitem.lookup ?_)
  have fin : wpAny (model X.prog X.w) X.A (subscripted slice false (.ref a) (.ref p)) (fun r s₃ => wpAny (model X.prog X.w) X.A (letTemporaryGo value (.ref a) r >>= fun _ => pure r) (EP X pins σ Q) X.xe s₃) X.xe s := by
    rw [hs]
    exact wpAny_operating (wpAny_getItem_heap (nd_room hu) (nkey_is I hw rq hq) hm ha (wpAny_bind (wpAny_letTemporaryGo (wpAny_pure ⟨v', H, I.tok _, rv, hQ v' rd⟩))))
  first
    | exact wpAny_pure (wpAny_bind fin)
    | exact wpAny_bind (wpAny_pure (wpAny_bind fin))
    | exact wpAny_bind fin
/-- x[y] = v -/
def rNSet (K : PySem.W.Frag) : V → V → V → Hp → (Hp → Prop) → Prop := fun o i v H Q => ∃ W a b p xs es q, o = .ref a ∧ i = .ref p ∧ Holds W H ∧ H a = some (NdO b xs) ∧ RepN K W xs es ∧ Rep K W i q ∧ q.nkey = true ∧ xs.length < sizeLine ∧ Q (L2.upd H a (NdO a (putN xs (nk q) p v)))
theorem nd_write {h' : Heap} {t' : Nat} {a b : Addr} {xs xs' : List NE} (I : L2.Inv X pins σ H s) (e : H a = some (NdO b xs)) (hs : Heap.SameBut a s.heap h') (n : NdAt a xs' h') : L2.Inv X pins σ (L2.upd H a (NdO a xs')) { s with heap := h', toks := t' } := by
  obtain ⟨_, _, _, _, o, _, _, ho, _⟩ := id n
  exact d_write I (by rw [e]; exact True.intro) hs ⟨o, ho⟩ (nd_okO n)
theorem set_nest (hu : NRoom X.A) : PSet X (rNSet X.K) := by
  intro pins s σ H o i v ov iv u Q I r1 r2 r3 q
  obtain ⟨W, a, b, p, xs, es, q, rfl, rfl, hw, e, r, rq, hq, hl, hQ⟩ := q
  cases (show ov = Value.ref a from r1)
  cases (show iv = Value.ref p from r2)
  obtain ⟨_, z, hsm, ys, pr, hm⟩ := nd_dict I hw (.inl e) r
  have hyl := paired_len pr
  refine wpAny_setItem_heap (hsz := by omega) (nd_room hu) (nkey_is I hw rq hq) hm fun h' hm' sb => ?_
  refine ⟨_, nd_write I e sb (nd_back ?_ hsm (paired_stored (nk q) r3 pr) hm'), hQ⟩
  have := putN_len (xs := xs) (k := nk q) (p := p) (v := v)
  omega
/-- a comprehension's d[k] = v -/
theorem nd_dictSet {Q : Unit → Shared → Prop} {E : Value → Shared → Prop} {a b p : Addr} {xs : List NE} {es : List (D × D)} {q : D} {v : V} {u : Value} (hu : NRoom X.A) (I : L2.Inv X pins σ H s) (hw : Holds W H) (e : H a = some (NdO b xs)) (r : RepN X.K W xs es) (rq : Rep X.K W (.ref p) q) (hq : q.nkey = true) (hl : xs.length < sizeLine) (rv : L2.RelV v u)
    (h : ∀ s', L2.Inv X pins σ (L2.upd H a (NdO a (putN xs (nk q) p v))) s' → Q () s') : wpAny (model X.prog X.w) X.A (dictSet a (.ref p) u) Q E s := by
  obtain ⟨_, z, hsm, ys, pr, hm⟩ := nd_dict I hw (.inl e) r
  have hyl := paired_len pr
  refine wpAny_dictSet_heap (hsz := by omega) (show (nestedKind X.prog X.w).room X.A by show X.A.units + 8 < cLine; unfold NRoom at hu; omega) (nkey_is I hw rq hq) hm fun h' hm' sb => ?_
  refine h _ (nd_write I e sb (nd_back ?_ hsm (paired_stored (nk q) rv pr) hm'))
  have := putN_len (xs := xs) (k := nk q) (p := p) (v := v)
  omega
/-- {} -/
theorem nd_empty (h : Heap) (hb : sysModules < h.objs.size) : NdAt h.objs.size [] (h.push { cls := .type "dict", data := .dict #[] }) :=
  ⟨Nat.zero_le _, beq_eq_false_iff_ne.mpr (Ne.symm (Nat.ne_of_lt hb)), [], .nil, _, #[], 0, Heap.get?_push_size _ rfl, ⟨rfl, rfl, rfl⟩, rfl, rfl, List.nodup_nil⟩
theorem pe_dnewN {X : Cx} {pos : Pos} : PE X (.Dict [] [] pos) (fun _ H Q => ∀ p, H p = none → Q (.ref p) (L2.upd H p (NdO p []))) := ⟨fun pins s σ H Q I h =>
  wpAny_Dict_empty ⟨.ref s.heap.objs.size, _, I.laid (a := s.heap.objs.size) (o := NdO s.heap.objs.size []) (t' := s.toks) (fun _ _ q => Heap.get?_push_of_some _ q) (Nat.le_refl _) (nd_okO (nd_empty s.heap I.big)), rfl, h _ (I.hok.fresh (Nat.le_refl _))⟩⟩
theorem nd_type (I : L2.Inv X pins σ H s) {a b : Addr} {xs : List NE} (e : Rd H a (NdO b xs)) : s.TypeIs (.ref a) "dict" ∧ ∀ c, Value.ref a = .ref c → ∃ ob, s.heap.get? c = some ob ∧ ob.dict = none := by
  obtain ⟨_, _, _, zs, _, o, es, ep, h1, h2, _⟩ := nd_addr (e.ok I.hok)
  refine ⟨⟨o, h1, h2.1⟩, fun c q => ?_⟩
  cases q
  exact ⟨o, h1, h2.2.1⟩
/-- x.pop(y), y there -/
def tNPop (K : PySem.W.Frag) (to te : TE) : TE := fun σ H Q => to σ H fun x H1 => ∃ a b0 xs0, x = .ref a ∧ H1 a = some (NdO b0 xs0) ∧ te σ H1 fun y H2 => ∃ W b xs es q, Holds W H2 ∧ H2 a = some (NdO b xs) ∧ RepN K W xs es ∧ Rep K W y q ∧ q.nkey = true ∧ (DL.look es q).isSome = true ∧
  ∀ v, Q v (L2.upd H2 a (NdO a (dropN xs (nk q))))
theorem dropN_len {xs : List NE} {k : NestedKey} : (dropN xs k).length ≤ xs.length := List.length_filter_le _ _
theorem pe_npop {o e : Expr} {to te : TE} {apos cpos : Pos} (hu : NRoom X.A) (ho : PE X o to) (he : PE X e te) (base : attributeBase o "pop" X.env (eval o X.env) = eval o X.env)
    (few : ((backTo cpos (starEach [e] X.env)).all (fun x => !x.1) && (backToKw cpos (keywordEach [] X.env)).all (fun x => x.1.isSome) && decide (([e] : List Expr).length + ([] : List Keyword).length + (if ([] : List Keyword).isEmpty then 0 else 1) < 30)) = true)
    (line : (apos.endLine == cpos.line) = true) (trees : backTo cpos (starEach [e] X.env) = [(false, eval e X.env)]) : PE X (.Call (.Attribute o "pop" apos) [e] [] cpos) (tNPop X.K to te) := by
  refine ⟨fun pins s σ H Q I h => ?_⟩
  refine wpAny_Call_method base few line PySem.F.plainAttrs_dict PySem.F.slot_dict_pop PySem.F.type_dict_pop (thn (ho.run pins s σ H _ I h) fun u s1 ⟨x, H1, I1, rx, a, b0, xs0, ex, e0, q1⟩ => ?_)
  subst ex
  obtain rfl : u = Value.ref a := rx
  obtain ⟨t1, t2⟩ := nd_type I1 (.inl e0)
  refine ⟨t1, t2, ?_⟩
  rw [trees]
  refine Calls.callWith_builtin rfl (Calls.evalArgs_plain (Calls.spliced_cons (thn (he.run pins s1 σ H1 _ I1 q1) fun iv s2 ⟨y, H2, I2, ry, W, b, xs, es, q, hw, e2, r, rq, hq, hl, hQ⟩ => Calls.spliced_nil ?_)))
  obtain ⟨p, rfl⟩ := key_ref rq hq
  cases (show iv = Value.ref p from ry)
  obtain ⟨_, z, hs, ys, pr, hm⟩ := nd_dict I2 hw (.inl e2) r
  have hyl := paired_len pr
  have hat := r.isSome hq pr
  rw [hl] at hat
  obtain ⟨pv, hpv⟩ := Option.isSome_iff_exists.mp hat
  refine call_pop_heap (more := []) (hsz := by omega) (.inl rfl) (PySem.F.args_dict_pop_2 _ _) (nd_room hu) (nkey_is I2 hw rq hq) hs hm hpv fun h' hm' sb => ?_
  obtain ⟨v', rv⟩ : ∃ v, L2.RelV v pv.2 := by
    cases hlk : DL.look es q with
    | none => rw [hlk] at hl; cases hl
    | some d =>
      obtain ⟨p', v, u, h1, h2, _⟩ := (r.look hq pr).1 d hlk
      rw [hpv] at h1
      cases h1
      exact ⟨v, h2⟩
  exact ⟨v', _, nd_write I2 e2 sb (nd_back (by have := dropN_len (xs := xs) (k := nk q); omega) hs (paired_without (nk q) pr) hm'), rv, hQ v'⟩
/-- x.clear() -/
def tNClear (K : PySem.W.Frag) (to : TE) : TE := fun σ H Q => to σ H fun x H1 => ∃ W a b xs es, x = .ref a ∧ Holds W H1 ∧ H1 a = some (NdO b xs) ∧ RepN K W xs es ∧ Q .non (L2.upd H1 a (NdO a []))
theorem pe_nclear {o : Expr} {to : TE} {apos cpos : Pos} (ho : PE X o to) (base : attributeBase o "clear" X.env (eval o X.env) = eval o X.env) (line : (apos.endLine == cpos.line) = true) : PE X (.Call (.Attribute o "clear" apos) [] [] cpos) (tNClear X.K to) := by
  refine ⟨fun pins s σ H Q I h => ?_⟩
  refine wpAny_Call_method base rfl line PySem.F.plainAttrs_dict PySem.F.slot_dict_clear PySem.F.type_dict_clear (thn (ho.run pins s σ H _ I h) fun u s1 ⟨x, H1, I1, rx, W, a, b, xs, es, ex, hw, e0, r, hQ⟩ => ?_)
  subst ex
  obtain rfl : u = Value.ref a := rx
  obtain ⟨t1, t2⟩ := nd_type I1 (.inl e0)
  refine ⟨t1, t2, ?_⟩
  obtain ⟨_, z, hs, ys, pr, hm⟩ := nd_dict I1 hw (.inl e0) r
  have hyl := paired_len pr
  refine Calls.callWith_builtin rfl (PySem.evalArgs_none ?_)
  refine clear_keyed (knd := nestedKind X.prog X.w) (hsz := by rw [pairsH_length]; omega) ⟨ys, hm, rfl⟩ fun h' hm' sb => ?_
  obtain ⟨zs, hz, e⟩ := hm'
  have : zs = [] := by
    have l := pairsH_length zs
    rw [e] at l
    exact List.length_eq_zero_iff.mp l.symm
  subst this
  exact ⟨.non, _, nd_write I1 e0 sb (nd_back (Nat.zero_le _) hs .nil hz), rfl, hQ⟩
end
/-! ### the keys are walked -/
section
variable {X : Cx} {pins : List (Addr × Obj)} {σ : L2.St} {H : Hp} {s : Shared}
theorem frzN {d b : Addr} {o : Obj} {xs : List NE} (I : L2.Inv X pins σ H s) (h : H d = some (.frz o (NdO b xs))) :
    (d == sysModules) = false ∧ s.heap.get? d = some o ∧ o.ExactDict ∧ ∃ (es : Array DictEntry) (ep : Nat), o.data = .dict es ep ∧ es.size = xs.length ∧
      ∀ (i : Nat) (k : NestedKey) (p : Addr) (v : V), xs[i]? = some (k, p, v) → ∃ en : DictEntry, es[i]? = some en ∧ en.key = .ref p := by
  obtain ⟨hd, q⟩ := (show s.heap.get? d = some o ∧ ObjOk X.prog X.w H s.heap d (NdO b xs) from I.hok d _ h)
  obtain ⟨_, z, hs, ys, pr, o', es, ep, ho, hx, hdt, he, _⟩ := nd_addr q
  rw [hd] at ho
  cases ho
  have l1 : es.size = ys.length := by rw [← Array.length_toList, he, List.length_map]
  refine ⟨hs, hd, hx, es, ep, hdt, by rw [l1, paired_len pr], fun i k p v e => ?_⟩
  obtain ⟨y, hy, e1, e2, _⟩ := L2.paired_get pr e
  have q : es[i]? = some (⟨y.1.hash WW.w, .ref y.2.1, y.2.2⟩ : DictEntry) := by rw [← Array.getElem?_toList, he, List.getElem?_map, hy]; rfl
  have e2 : p = y.2.1 := e2
  exact ⟨_, q, by rw [e2]⟩
end
def Itkn (d : Addr) (o : Obj) (b : Addr) (xs : List NE) : It :=
  ⟨fun i H => H d = some (.frz o (NdO b xs)) ∧ i < xs.length, fun i H x H' => H' = H ∧ ∃ (k : NestedKey) (p : Addr) (v : V), xs[i]? = some (k, p, v) ∧ x = .ref p, fun i H => H d = some (.frz o (NdO b xs)) ∧ xs.length ≤ i⟩
theorem turn_keysN {P : Program} {w : World} {K : PySem.W.Frag} {tg : Expr} {d b : Addr} {o : Obj} {es : Array DictEntry} {ep : Nat} {xs : List NE} (it : Addr) (hod : o.data = .dict es ep) : Turn P w K tg (Itkn d o b xs) [it] it (fun i h => h.IsKeyIter it d i xs.length ep) where
  mem := by simp
  obj := fun i h st b hb => by
    have e : b = it := by simpa using hb
    subst e
    obtain ⟨oi, e, c, dd⟩ := st
    exact ⟨oi, e, fun v z => by rw [dd] at z; cases z⟩
  keep := fun i h h' st k => st.at fun oi e => k it (by simp) oi e
  item := by
    intro X hP hw hK hc i pins s σ H E I hf st hg
    subst hP hw hK
    obtain ⟨hd, hi⟩ := hg
    obtain ⟨f0, f1, f2, f3, f4, f5⟩ := hf it (by simp)
    obtain ⟨hs, hgd, hx, es', ep', hdt, hsz, ent⟩ := frzN I hd
    obtain ⟨rfl, rfl⟩ := dict_ep hod hdt
    obtain ⟨⟨k, q, v⟩, hkv⟩ : ∃ p, xs[i]? = some p := ⟨xs[i], List.getElem?_eq_getElem hi⟩
    obtain ⟨en, hen, hkey⟩ := ent i k q v hkv
    refine next_key_item st hgd hdt hsz hen fun h' st' sb => ?_
    have I1 : L2.Inv X pins σ H { s with heap := h' } := I.turned (t' := s.toks) (fun b ob hb e => (sb.2 b hb).trans e) f0 f1 f3 f4 f5
    obtain ⟨oi, e, c, dd⟩ := id st'
    exact ⟨en.key, rfl, go_of (s := { s with heap := h' }) e c dd (by decide) ⟨.ref q, H, I1, hkey, ⟨rfl, k, q, v, hkv, rfl⟩, st', fun b hb => (hf b hb).1⟩⟩
  done := by
    intro X hP hw hK hc i pins s σ H E I hf st hg
    subst hP hw hK
    obtain ⟨hd, hi⟩ := hg
    obtain ⟨f0, f1, f2, f3, f4, f5⟩ := hf it (by simp)
    obtain ⟨hs, hgd, hx, es', ep', hdt, hsz, ent⟩ := frzN I hd
    obtain ⟨rfl, rfl⟩ := dict_ep hod hdt
    exact next_key_end (I.ok.hd hc) st hgd hdt hsz hi fun h' eb => ⟨rfl, I.turned (t' := s.toks) (fun b ob hb e => eb b ob hb e) f0 f1 f3 f4 f5⟩
  self := fun A i s Q E st h => wpAny_pyIter_keyiter st h
/-- a dict's keys, of either kind -/
inductive KIt : Addr → Obj → HO → It → Prop
  | k {d : Addr} {o : Obj} {kvs : List (Key × V)} : KIt d o (.dK kvs) (Itk d o kvs)
  | n {d b : Addr} {o : Obj} {xs : List NE} : KIt d o (NdO b xs) (Itkn d o b xs)
def iKeysA (td : TE) : TI := fun σ H R => td σ H fun x H1 => ∃ d o u J, x = .ref d ∧ H1 d = some (.frz o u) ∧ KIt d o u J ∧ R J H1
theorem pi_keysA {X : Cx} {tg e : Expr} {td : TE} (he : PE X e td) : PI X tg e (iKeysA td) := by
  refine ⟨fun pins s σ H R I h => ?_⟩
  refine thn (he.run pins s σ H _ I h) fun u s1 ⟨x, H1, I1, rx, d, o, v, J, ex, hd, kj, q⟩ => ?_
  subst ex
  obtain rfl : u = Value.ref d := rx
  cases kj with
  | k =>
    obtain ⟨hs, hgd, hx, es, ep, vs, hdt, hsz, kv, hm⟩ := I1.frzK hd
    refine iter_keys hs hgd hx hdt (pi_one (tk := s1.toks) I1 _ (turn_keys _ hdt) ⟨_, Heap.get?_push_size _ rfl, rfl, ?_⟩ q)
    rw [hsz] <;> rfl
  | n =>
    obtain ⟨hs, hgd, hx, es, ep, hdt, hsz, ent⟩ := frzN I1 hd
    refine iter_keys hs hgd hx hdt (pi_one (tk := s1.toks) I1 _ (turn_keysN _ hdt) ⟨_, Heap.get?_push_size _ rfl, rfl, ?_⟩ q)
    rw [hsz] <;> rfl
end DL

/-! DText: the library's text functions on lists of codes. -/
namespace DL
open PySem PySem.Spec PyProof.Rows L2
open PySem.Builtin.Str PySem.StrLaws

def occIdx (c : Nat) : List Nat → Nat → List Nat
  | [], _ => []
  | x :: s, i => if x = c then i :: occIdx c s (i + 1) else occIdx c s (i + 1)
theorem occIdx_len (c : Nat) : ∀ (s : List Nat) (i : Nat), (occIdx c s i).length = s.count c
  | [], _ => rfl
  | x :: s, i => by
    unfold occIdx
    by_cases h : x = c
    · rw [if_pos h, List.length_cons, occIdx_len c s, h, List.count_cons_self]
    · rw [if_neg h, occIdx_len c s, List.count_cons_of_ne h]
theorem occ_run (s : List Nat) (c limit : Nat) : ∀ (n i : Nat) (acc : Array Nat) (free : Nat), i + n = s.length → free ≤ i →
    (forIn (List.range' i (n + 1)) (acc, free) (occBody (S s) (S [c]) s.length limit)).run.fst.toList = acc.toList ++ (occIdx c (s.drop i) i).take (limit - acc.size)
  | n, i, acc, free, hn, hf => by
    rw [List.range'_succ, List.forIn_cons]
    have hat : ∀ k, (k + (S [c]).length ≤ s.length ∧ subAt (S s) (S [c]) k = true) ↔ s[k]? = some c := fun k => subAt_one (S s) c k
    cases n with
    | zero =>
      have hi : i = s.length := by omega
      subst hi
      have h0 : ¬ (s.length + (S [c]).length ≤ s.length) := by show ¬ (s.length + 1 ≤ s.length); omega
      unfold occBody
      rw [if_neg fun h => h0 h.1.2]
      simp [List.drop_length, occIdx]
    | succ n =>
      have hi : i < s.length := by omega
      have hd : s.drop i = s[i] :: s.drop (i + 1) := List.drop_eq_getElem_cons hi
      rw [hd]
      unfold occBody
      by_cases hc : s[i] = c
      · have hA := (hat i).mpr (by rw [List.getElem?_eq_getElem hi, hc])
        by_cases hl : acc.size < limit
        · rw [if_pos ⟨⟨⟨hl, hf⟩, hA.1⟩, hA.2⟩]
          have ih := occ_run s c limit n (i + 1) (acc.push i) (i + 1) (by omega) (Nat.le_refl _)
          have e : limit - acc.size = (limit - (acc.push i).size) + 1 := by rw [Array.size_push]; omega
          show (forIn (List.range' (i + 1) (n + 1)) (acc.push i, i + 1) (occBody (S s) (S [c]) s.length limit)).run.fst.toList = _
          rw [ih, occIdx, if_pos hc, e, List.take_succ_cons, Array.toList_push, List.append_assoc]
          rfl
        · rw [if_neg fun h => hl h.1.1.1]
          have ih := occ_run s c limit n (i + 1) acc free (by omega) (by omega)
          have e : limit - acc.size = 0 := by omega
          show (forIn (List.range' (i + 1) (n + 1)) (acc, free) (occBody (S s) (S [c]) s.length limit)).run.fst.toList = _
          rw [ih, e, List.take_zero, List.take_zero]
      · rw [if_neg fun h => hc (by
          have q := (hat i).mp ⟨h.1.2, h.2⟩
          rw [List.getElem?_eq_getElem hi] at q
          exact Option.some.inj q)]
        have ih := occ_run s c limit n (i + 1) acc free (by omega) (by omega)
        show (forIn (List.range' (i + 1) (n + 1)) (acc, free) (occBody (S s) (S [c]) s.length limit)).run.fst.toList = _
        rw [ih, occIdx, if_neg hc]
theorem occ_S (s : List Nat) (c limit : Nat) : occurrences (S s) (S [c]) 0 (S s).length limit = (occIdx c s 0).take limit := by
  rw [occ_eq]
  have h : (S s).length = s.length := by simp [S, Str.length]
  rw [h]
  exact (occ_run s c limit s.length 0 #[] 0 (by omega) (Nat.le_refl _)).trans (by simp)
theorem count_S (s : List Nat) (c : Nat) : Txt.count (S s) (S [c]) = (s.count c : Int) := by
  have e : Txt.count (S s) (S [c]) = ((occurrences (S s) (S [c]) 0 (S s).length ((S s).length + 1)).length : Int) := rfl
  rw [e, occ_S, List.length_take, occIdx_len]
  have h : (S s).length = s.length := by simp [S, Str.length]
  have := List.count_le_length (a := c) (l := s)
  rw [h]
  omega
theorem occIdx_head (c : Nat) : ∀ (s : List Nat) (i : Nat), (occIdx c s i).head? = (s.findIdx? (· == c)).map (· + i)
  | [], _ => rfl
  | x :: s, i => by
    unfold occIdx
    rw [List.findIdx?_cons]
    by_cases h : x = c
    · rw [if_pos h, if_pos (by simpa using h)]
      simp
    · rw [if_neg h, if_neg (by simpa using h), occIdx_head c s]
      cases s.findIdx? (· == c) with
      | none => rfl
      | some j => simp; omega
theorem find_S (s : List Nat) (c : Nat) : Txt.find (S s) (S [c]) = findC c s := by
  have e : Txt.find (S s) (S [c]) = (match occurrences (S s) (S [c]) 0 (S s).length 1 with | i :: _ => (i : Int) | [] => -1) := rfl
  rw [e, occ_S]
  have h := occIdx_head c s 0
  unfold findC
  cases q : occIdx c s 0 with
  | nil =>
    rw [q] at h
    cases r : s.findIdx? (· == c) with
    | none => rfl
    | some j => rw [r] at h; cases h
  | cons a t =>
    rw [q] at h
    cases r : s.findIdx? (· == c) with
    | none => rw [r] at h; cases h
    | some j =>
      rw [r] at h
      have h : some a = some (j + 0) := h
      cases h
      rfl
def lastBody (s sub : Str) (hi : Nat) (i : Nat) (st : Option Nat) : Id (ForInStep (Option Nat)) :=
  if i + sub.length ≤ hi ∧ subAt s sub i = true then pure (ForInStep.yield (some i)) else pure (ForInStep.yield st)
theorem last_eq (s sub : Str) (lo hi : Nat) : lastOccurrence s sub lo hi = (forIn (List.range' lo (hi + 1 - lo)) none (lastBody s sub hi)).run := by
  unfold lastOccurrence lastBody
  simp
theorem last_run (s : List Nat) (c : Nat) : ∀ (n i : Nat) (st : Option Nat), i + n = s.length →
    (forIn (List.range' i (n + 1)) st (lastBody (S s) (S [c]) s.length)).run = match (occIdx c (s.drop i) i).getLast? with | some j => some j | none => st
  | n, i, st, hn => by
    rw [List.range'_succ, List.forIn_cons]
    have hat : ∀ k, (k + (S [c]).length ≤ s.length ∧ subAt (S s) (S [c]) k = true) ↔ s[k]? = some c := fun k => subAt_one (S s) c k
    cases n with
    | zero =>
      have hi : i = s.length := by omega
      subst hi
      have h0 : ¬ (s.length + (S [c]).length ≤ s.length) := by show ¬ (s.length + 1 ≤ s.length); omega
      unfold lastBody
      rw [if_neg fun h => h0 h.1]
      simp [List.drop_length, occIdx]
    | succ n =>
      have hi : i < s.length := by omega
      have hd : s.drop i = s[i] :: s.drop (i + 1) := List.drop_eq_getElem_cons hi
      rw [hd]
      unfold lastBody
      by_cases hc : s[i] = c
      · have hA := (hat i).mpr (by rw [List.getElem?_eq_getElem hi, hc])
        rw [if_pos hA]
        have ih := last_run s c n (i + 1) (some i) (by omega)
        show (forIn (List.range' (i + 1) (n + 1)) (some i) (lastBody (S s) (S [c]) s.length)).run = _
        rw [ih, occIdx, if_pos hc]
        cases q : occIdx c (s.drop (i + 1)) (i + 1) with
        | nil => rfl
        | cons a t => rw [List.getLast?_cons_cons]; rfl
      · rw [if_neg fun h => hc (by
          have q := (hat i).mp h
          rw [List.getElem?_eq_getElem hi] at q
          exact Option.some.inj q)]
        have ih := last_run s c n (i + 1) st (by omega)
        show (forIn (List.range' (i + 1) (n + 1)) st (lastBody (S s) (S [c]) s.length)).run = _
        rw [ih, occIdx, if_neg hc]
theorem occIdx_last (c : Nat) : ∀ (s : List Nat) (i : Nat), (occIdx c s i).getLast? = (s.reverse.findIdx? (· == c)).map fun j => i + s.length - 1 - j
  | [], _ => rfl
  | x :: s, i => by
    have ih := occIdx_last c s (i + 1)
    rw [List.reverse_cons, List.findIdx?_append]
    unfold occIdx
    cases r : s.reverse.findIdx? (· == c) with
    | some j =>
      rw [r] at ih
      have hq : (occIdx c s (i + 1)).getLast? = some (i + 1 + s.length - 1 - j) := ih
      have e2 : (if x = c then i :: occIdx c s (i + 1) else occIdx c s (i + 1)).getLast? = some (i + 1 + s.length - 1 - j) := by
        by_cases h : x = c
        · rw [if_pos h]
          cases q : occIdx c s (i + 1) with
          | nil => rw [q] at hq; cases hq
          | cons a t => rw [q] at hq; rw [List.getLast?_cons_cons]; exact hq
        · rw [if_neg h]; exact hq
      rw [e2]
      simp
    | none =>
      rw [r] at ih
      have hq : (occIdx c s (i + 1)).getLast? = none := ih
      have hn : occIdx c s (i + 1) = [] := List.getLast?_eq_none_iff.mp hq
      rw [hn]
      by_cases h : x = c
      · simp [h]
      · simp [h]
theorem rfind_S (s : List Nat) (c : Nat) : Txt.rfind (S s) (S [c]) = rfindC c s := by
  have e : Txt.rfind (S s) (S [c]) = (match lastOccurrence (S s) (S [c]) 0 (S s).length with | some i => (i : Int) | none => -1) := rfl
  have h : (S s).length = s.length := by simp [S, Str.length]
  rw [e, last_eq, h]
  have q := last_run s c s.length 0 none (by omega)
  rw [List.drop_zero, occIdx_last] at q
  have q' : (forIn (List.range' 0 (s.length + 1 - 0)) none (lastBody (S s) (S [c]) s.length)).run = _ := q
  rw [q']
  unfold rfindC
  cases r : s.reverse.findIdx? (· == c) with
  | none => rfl
  | some j =>
    have hj : j < s.length := by
      have := (List.findIdx?_eq_some_iff_findIdx_eq.mp r).1
      rw [List.length_reverse] at this
      exact this
    show ((0 + s.length - 1 - j : Nat) : Int) = _
    show ((0 + s.length - 1 - j : Nat) : Int) = (s.length : Int) - 1 - j
    omega
theorem split_C (s : List Nat) (c : Nat) (hc : c < 256) : Txt.split (S s) (S [c]) = (splitC c s).map S := by
  have e := SX.split_S (a := s) (b := [c]) (by simp) (by simpa using hc)
  refine e.trans ?_
  have key : ∀ (l acc : List Nat), TL.spl [c] 0 acc l = match splitC c l with | [] => [acc] | w :: ws => (acc ++ w) :: ws := by
    intro l
    induction l with
    | nil => intro acc; simp [TL.spl, splitC]
    | cons x r ih =>
      intro acc
      have hp : TL.pre [c] (x :: r) = (x == c) := by
        unfold TL.pre
        show ([x] == [c]) = (x == c)
        simp
      by_cases h : x = c
      · have h1 : TL.pre [c] (x :: r) = true := by rw [hp]; simpa using h
        rw [TL.spl_hit h1]
        show acc :: TL.spl [c] 0 [] r = _
        rw [ih [], splitC, if_pos h]
        cases q : splitC c r with
        | nil =>
          exfalso
          have : ∀ l : List Nat, splitC c l ≠ [] := by
            intro l
            cases l with
            | nil => simp [splitC]
            | cons y z =>
              unfold splitC
              split
              · simp
              · split <;> simp
          exact this r q
        | cons w ws => simp
      · have h1 : ¬ TL.pre [c] (x :: r) = true := by rw [hp]; simpa using h
        show (if TL.pre [c] (x :: r) = true then acc :: TL.spl [c] ([c].length - 1) [] r else TL.spl [c] 0 (acc ++ [x]) r) = _
        rw [if_neg h1, ih (acc ++ [x]), splitC, if_neg h]
        cases q : splitC c r with
        | nil => simp
        | cons w ws => simp
  rw [key s []]
  congr 1
  cases q : splitC c s with
  | nil =>
    exfalso
    have : ∀ l : List Nat, splitC c l ≠ [] := by
      intro l
      cases l with
      | nil => simp [splitC]
      | cons y z =>
        unfold splitC
        split
        · simp
        · split <;> simp
    exact this s q
  | cons w ws => simp
theorem join_C (s : List Nat) : ∀ ws : List (List Nat), TL.joinL s ws = joinD s ws
  | [] => rfl
  | [_] => rfl
  | p :: q :: r => by
    show p ++ (s ++ TL.joinL s (q :: r)) = p ++ s ++ joinD s (q :: r)
    rw [join_C s (q :: r), List.append_assoc]
theorem S_len (s : List Nat) : (S s).length = s.length := by simp [S, Str.length]
theorem starts_S (s t : List Nat) : Txt.startswith (S s) (S t) = t.isPrefixOf s := by
  show (decide (0 + (S t).length ≤ (S s).length) && subAt (S s) (S t) 0) = _
  rw [subAt_eq, S_len, S_len]
  show (decide (0 + t.length ≤ s.length) && ((s.drop 0).take t.length == t)) = _
  rw [List.drop_zero, Nat.zero_add]
  by_cases h : t <+: s
  · obtain ⟨u, rfl⟩ := h
    rw [show t.isPrefixOf (t ++ u) = true from List.isPrefixOf_iff_prefix.mpr ⟨u, rfl⟩]
    simp
  · rw [show t.isPrefixOf s = false by
      cases e : t.isPrefixOf s with
      | false => rfl
      | true => exact absurd (List.isPrefixOf_iff_prefix.mp e) h]
    cases e : (decide (t.length ≤ s.length) && (s.take t.length == t)) with
    | false => rfl
    | true =>
      rw [Bool.and_eq_true] at e
      exact absurd ⟨s.drop t.length, by
        have := eq_of_beq e.2
        rw [← this, List.length_take, Nat.min_eq_left (of_decide_eq_true e.1), List.take_append_drop]⟩ h
theorem ends_S (s t : List Nat) : Txt.endswith (S s) (S t) = t.isSuffixOf s := by
  show (decide (0 + (S t).length ≤ (S s).length) && subAt (S s) (S t) ((S s).length - (S t).length)) = _
  rw [subAt_eq, S_len, S_len]
  show (decide (0 + t.length ≤ s.length) && ((s.drop (s.length - t.length)).take t.length == t)) = _
  rw [Nat.zero_add]
  by_cases h : t <:+ s
  · obtain ⟨u, rfl⟩ := h
    rw [show t.isSuffixOf (u ++ t) = true from List.isSuffixOf_iff_suffix.mpr ⟨u, rfl⟩]
    simp
  · rw [show t.isSuffixOf s = false by
      cases e : t.isSuffixOf s with
      | false => rfl
      | true => exact absurd (List.isSuffixOf_iff_suffix.mp e) h]
    cases e : (decide (t.length ≤ s.length) && ((s.drop (s.length - t.length)).take t.length == t)) with
    | false => rfl
    | true =>
      rw [Bool.and_eq_true] at e
      have h1 := of_decide_eq_true e.1
      have h2 := eq_of_beq e.2
      have h3 : (s.drop (s.length - t.length)).take t.length = s.drop (s.length - t.length) := List.take_of_length_le (by rw [List.length_drop]; omega)
      rw [h3] at h2
      exact absurd ⟨s.take (s.length - t.length), by
        have := List.take_append_drop (s.length - t.length) s
        rw [h2] at this
        exact this⟩ h
theorem all_S (s : List Nat) (p : Nat → Bool) : (S s).cps.all p = s.all p := by simp [S]
theorem any_S (s : List Nat) (p : Nat → Bool) : (S s).cps.any p = s.any p := by simp [S]
theorem asc_lt {s : List Nat} (h : asc s = true) : ∀ c ∈ s, c < 128 := fun c hc => of_decide_eq_true (List.all_eq_true.mp h c hc)
theorem alnum_asc : ∀ c < 128, Unicode.isAlnum c = (upC c || loC c || diC c) := by decide +kernel
theorem alpha_asc : ∀ c < 128, Unicode.isAlpha c = (upC c || loC c) := by decide +kernel
theorem upper_asc : ∀ c < 128, Unicode.isUpper c = upC c := by decide +kernel
theorem lower_asc : ∀ c < 128, (Unicode.isLower c || Unicode.isTitle c) = loC c := by decide +kernel
theorem digit_asc : ∀ c < 128, Unicode.isDigit c = diC c := by decide +kernel
theorem all_cong {s : List Nat} {p q : Nat → Bool} (h : ∀ c ∈ s, p c = q c) : s.all p = s.all q := by
  induction s with
  | nil => rfl
  | cons x r ih => rw [List.all_cons, List.all_cons, h x (List.mem_cons_self ..), ih fun c hc => h c (List.mem_cons_of_mem _ hc)]
theorem any_cong {s : List Nat} {p q : Nat → Bool} (h : ∀ c ∈ s, p c = q c) : s.any p = s.any q := by
  induction s with
  | nil => rfl
  | cons x r ih => rw [List.any_cons, List.any_cons, h x (List.mem_cons_self ..), ih fun c hc => h c (List.mem_cons_of_mem _ hc)]
theorem pos_S (s : List Nat) : decide ((S s).length > 0) = !s.isEmpty := by cases s <;> simp [S, Str.length]
theorem isalnum_S {s : List Nat} (h : asc s = true) : Txt.isalnum (S s) = (!s.isEmpty && s.all fun c => upC c || loC c || diC c) := by
  show (decide ((S s).length > 0) && (S s).cps.all Unicode.isAlnum) = _
  rw [all_S, pos_S, all_cong fun c hc => alnum_asc c (asc_lt h c hc)]
theorem isalpha_S {s : List Nat} (h : asc s = true) : Txt.isalpha (S s) = (!s.isEmpty && s.all fun c => upC c || loC c) := by
  show (decide ((S s).length > 0) && (S s).cps.all Unicode.isAlpha) = _
  rw [all_S, pos_S, all_cong fun c hc => alpha_asc c (asc_lt h c hc)]
theorem isdigit_S {s : List Nat} (h : asc s = true) : Txt.isdigit (S s) = (!s.isEmpty && s.all diC) := by
  show (decide ((S s).length > 0) && (S s).cps.all Unicode.isDigit) = _
  rw [all_S, pos_S, all_cong fun c hc => digit_asc c (asc_lt h c hc)]
theorem isupper_S {s : List Nat} (h : asc s = true) : Txt.isupper (S s) = (s.any upC && s.all fun c => !loC c) := by
  show ((S s).cps.any Unicode.isUpper && !(S s).cps.any fun c => Unicode.isLower c || Unicode.isTitle c) = _
  rw [any_S, any_S, any_cong fun c hc => upper_asc c (asc_lt h c hc), any_cong fun c hc => lower_asc c (asc_lt h c hc)]
  rw [List.not_any_eq_all_not]
theorem lo1_low : ∀ c < 128, PyProof.Rows.lo1 c = lowC c := by decide +kernel
theorem lower_C {s : List Nat} (h : asc s = true) : Txt.lower (S s) = S (s.map lowC) := by
  have e := SX.lower_S (a := s) h
  refine e.trans ?_
  show S (s.map PyProof.Rows.lo1) = _
  rw [List.map_congr_left fun c hc => lo1_low c (asc_lt h c hc)]
theorem cut_S (s : List Nat) (lo hi : Option Int) : cutS (S s) lo hi = S (cutD s lo hi) := by
  have e1 : HT.sIx = ixB := by
    funext n d o
    cases o <;> rfl
  unfold cutS cutD
  rw [S_len, e1]
theorem ixN_eq (n : Nat) (i : Int) : L2.ixN n i = ixN n i := rfl
theorem atD_eq {α : Type} (xs : List α) (i : Int) : atI xs i = atD xs i := rfl
theorem cutV_eq (xs : List V) (lo hi : Option Int) : cutV xs lo hi = cutD xs lo hi := by
  have e1 : HT.sIx = ixB := by
    funext n d o
    cases o <;> rfl
  unfold cutV cutD
  rw [e1]
/-- the digits of a number as a text -/
theorem str_int (i : Int) : Str.ofString (toString i) = S (digs i) := by
  rw [PySem.Str.ofString_eq_toList]
  rfl
end DL

/-! DExpr: the rules of expressions over trees. -/
namespace DL
open PySem PySem.Spec PyProof.Rows L2
variable [WW]
section
variable {P : Program} {w : World} {K : PySem.W.Frag} {mg : Str → Option Value} {base : Heap} {N : List Str} {sc : Scope} {k : Nat}
variable {F : Fam P w K mg base N sc k} {C : Ctx}

/-! ### from one judgement to another -/
theorem EX.ev {e : Expr} {we : WE} (h : EX F e we) : EV F e we := by
  obtain ⟨te, h1, h2⟩ := h
  exact ⟨te, h1, fun C Γ σ W H q Q s hw c => h2 C Γ σ W H q Q s hw fun v d W' H' hq x r => c v d W' H' hq x (.rep r)⟩
theorem EF.ex {e : Expr} {we : WE} (h : EF F e we) : EX F e we := by
  obtain ⟨te, h1, h2⟩ := h
  refine ⟨te, h1, fun C Γ σ W H q Q s hw c => h2 C Γ σ W H q Q s hw fun v d W' H' hq x n => ?_⟩
  obtain ⟨W'', x', r⟩ := n.rep x
  exact c v d W'' H' hq x' r
theorem EF.ev {e : Expr} {we : WE} (h : EF F e we) : EV F e we := h.ex.ev
theorem EX.fl {e : Expr} {we : WE} (h : EX F e we) : EF F e (wFlat we) := by
  obtain ⟨te, h1, h2⟩ := h
  exact ⟨te, h1, fun C Γ σ W H q Q s hw c => h2 C Γ σ W H _ Q s hw fun v d W' H' hq x r => c v d W' H' hq.2 x (.inl ⟨hq.1, r⟩)⟩
theorem EV.fl {e : Expr} {we : WE} (h : EV F e we) : EX F e (wFlat we) := by
  obtain ⟨te, h1, h2⟩ := h
  exact ⟨te, h1, fun C Γ σ W H q Q s hw c => h2 C Γ σ W H _ Q s hw fun v d W' H' hq x r => c v d W' H' hq.2 x (r.rep_flat hq.1)⟩
theorem EX.er {e : Expr} {we : WE} (h : EX F e we) : ER F .sh e we := by
  obtain ⟨te, h1, h2⟩ := h
  exact ⟨te, h1, fun C Γ σ W H q Q s hw c => h2 C Γ σ W H q Q s hw fun v d W' H' hq x r => c v d W' H' hq x.le (s.glo.ext x) r⟩
theorem EF.er {e : Expr} {we : WE} (h : EF F e we) : ER F .fr e we := by
  obtain ⟨te, h1, h2⟩ := h
  refine ⟨te, h1, fun C Γ σ W H q Q s hw c => h2 C Γ σ W H q Q s hw fun v d W' H' hq x n => c v d W' H' hq x.le (s.glo.ext x) ?_⟩
  rcases n with n | ⟨p, o, e1, e2, r⟩
  · exact .inl n
  · exact .inr ⟨p, o, e1, s.glo.nn e2, r⟩
theorem EX.erF {e : Expr} {we : WE} (h : EX F e we) : ER F .fr e (wFlat we) := h.fl.er

/-! ### names and constants -/
theorem vis_of {X : Cx} {x : Str} (e : X.env.scope = sc) (h : Vis sc x) : Vis X.env.scope x := by rw [e]; exact h
theorem pe_slot {i : Nat} {x : Str} {pos : Pos} (hN : N[i]? = some x) (hv : Vis sc x) (hd : (x == ("__debug__" : Str)) = false) (hcd : (x == ("__classdict__" : Str)) = false) (j : F.ι) : PE (F.X j) (.Name x pos) (tVar i) :=
  pe_var (by rw [F.N']; exact hN) (vis_of (F.sc' j) hv) hd hcd
theorem Sta.var {Γ : Gam} {σ : L2.St} {W : Wd} {H : Hp} (s : Sta K C Γ σ W H) {i : Nat} {q : D → Prop} (h : cellSh Γ[i]? q) : ∃ v d, σ[i]? = some (some v) ∧ Rep K W v d ∧ q d := by
  cases e : Γ[i]? with
  | none => rw [e] at h; exact h.elim
  | some c =>
    rw [e] at h
    have hc := s.cel i c e
    cases c with
    | no => exact h.elim
    | sh d =>
      obtain ⟨v, e1, r⟩ := hc
      exact ⟨v, d, e1, r, h⟩
    | bo d =>
      obtain ⟨v, e1, r | ⟨a, o, e2, _, _, r⟩⟩ := hc
      · exact ⟨v, d, e1, r, h.2⟩
      · cases r with
        | lst _ => exact (Bool.false_ne_true h.1).elim
        | dk _ => exact (Bool.false_ne_true h.1).elim
        | dn _ => exact (Bool.false_ne_true h.1).elim
    | ow a d => exact h.elim
theorem Sta.view {Γ : Gam} {σ : L2.St} {W : Wd} {H : Hp} (s : Sta K C Γ σ W H) {i : Nat} {q : D → Prop} (h : cellVw Γ[i]? q) : ∃ v d, σ[i]? = some (some v) ∧ View K W H v d ∧ q d := by
  cases e : Γ[i]? with
  | none => rw [e] at h; exact h.elim
  | some c =>
    rw [e] at h
    have hc := s.cel i c e
    cases c with
    | no => exact h.elim
    | sh d =>
      obtain ⟨v, e1, r⟩ := hc
      exact ⟨v, d, e1, .rep r, h⟩
    | bo d =>
      obtain ⟨v, e1, r | ⟨a, o, e2, e3, p, r⟩⟩ := hc
      · exact ⟨v, d, e1, .rep r, h⟩
      · subst e2
        obtain ⟨e4, p'⟩ := s.glo.rd e3 p
        exact ⟨_, d, e1, .own e4 p' r, h⟩
    | ow a d =>
      obtain ⟨e1, _, _, p, o, e2, r⟩ := hc
      exact ⟨_, d, e1, .own (.inl e2) p r, h⟩
theorem Sta.own {Γ : Gam} {σ : L2.St} {W : Wd} {H : Hp} (s : Sta K C Γ σ W H) {i : Nat} {q : Nat → D → Prop} (h : cellOw Γ[i]? q) :
    ∃ (a : Addr) (d : D) (o : HO), Γ[i]? = some (.ow a d) ∧ σ[i]? = some (some (.ref a)) ∧ C.H0 a = none ∧ W.B a = none ∧ ¬ W.P a ∧ H a = some o ∧ RepO K W o d ∧ q a d := by
  cases e : Γ[i]? with
  | none => rw [e] at h; exact h.elim
  | some c =>
    rw [e] at h
    have hc := s.cel i c e
    cases c with
    | no => exact h.elim
    | sh d => exact h.elim
    | bo d => exact h.elim
    | ow a d =>
      obtain ⟨e1, h0, b, p, o, e2, r⟩ := hc
      exact ⟨a, d, o, rfl, e1, h0, b, p, e2, r, h⟩
theorem ex_var (i : Nat) {x : Str} {pos : Pos} (hN : N[i]? = some x := by rfl) (hv : Vis sc x := by first | exact Or.inl rfl | exact Or.inr (Or.inl rfl) | exact Or.inr (Or.inr rfl)) (hd : (x == ("__debug__" : Str)) = false := by decide) (hcd : (x == ("__classdict__" : Str)) = false := by decide) :
    EX F (.Name x pos) (wVar i) := by
  refine ⟨tVar i, fun j => pe_slot hN hv hd hcd j, fun C Γ σ W H q Q s hw c => ?_⟩
  obtain ⟨v, d, e, r, hq⟩ := s.var hw
  exact ⟨v, e, c v d W H hq (.refl s.holds) r⟩
theorem ev_var (i : Nat) {x : Str} {pos : Pos} (hN : N[i]? = some x := by rfl) (hv : Vis sc x := by first | exact Or.inl rfl | exact Or.inr (Or.inl rfl) | exact Or.inr (Or.inr rfl)) (hd : (x == ("__debug__" : Str)) = false := by decide) (hcd : (x == ("__classdict__" : Str)) = false := by decide) :
    EV F (.Name x pos) (wView i) := by
  refine ⟨tVar i, fun j => pe_slot hN hv hd hcd j, fun C Γ σ W H q Q s hw c => ?_⟩
  obtain ⟨v, d, e, r, hq⟩ := s.view hw
  exact ⟨v, e, c v d W H hq (.refl s.holds) r⟩
/-- the own list or dict is handed back -/
theorem er_var (i : Nat) {x : Str} {pos : Pos} (hN : N[i]? = some x := by rfl) (hv : Vis sc x := by first | exact Or.inl rfl | exact Or.inr (Or.inl rfl) | exact Or.inr (Or.inr rfl)) (hd : (x == ("__debug__" : Str)) = false := by decide) (hcd : (x == ("__classdict__" : Str)) = false := by decide) :
    ER F .fr (.Name x pos) (wOwn i) := by
  refine ⟨tVar i, fun j => pe_slot hN hv hd hcd j, fun C Γ σ W H q Q s hw c => ?_⟩
  obtain ⟨a, d, o, _, e1, h0, b, p, e2, r, hq⟩ := s.own hw
  exact ⟨.ref a, e1, c _ d W H hq (.refl W) s.glo (.inr ⟨a, o, rfl, h0, b, p, e2, r⟩)⟩
theorem ex_c {e : Expr} {v : V} {d : D} (h : ∀ j, PE (F.X j) e (tC v)) (r : ∀ W, Rep K W v d) : EX F e (wC d) :=
  ⟨tC v, h, fun C Γ σ W H q Q s hw c => c v d W H hw (.refl s.holds) (r W)⟩
theorem ex_int {i : Int} {j : Nat} {pos : Pos} : EX F (.Constant (.int i) j pos) (wC (.int i)) := ex_c (fun _ => pe_int) fun _ => .int i
theorem ex_bl {b : Bool} {j : Nat} {pos : Pos} : EX F (.Constant (.bool b) j pos) (wC (.bl b)) := ex_c (fun _ => pe_bl) fun _ => .bl b
theorem ex_non {j : Nat} {pos : Pos} : EX F (.Constant .none j pos) (wC .non) := ex_c (fun _ => pe_non) fun _ => .non
theorem ex_str {x : Str} {j : Nat} {pos : Pos} (l : List Nat) (h : x = S l := by decide +kernel) : EX F (.Constant (.str x) j pos) (wC (.str l)) := by
  subst h
  exact ex_c (fun _ => pe_str) fun _ => .str l
/-- a module's name -/
def GlS (sc : Scope) (x : Str) : Prop := sc.names.lookup x = some .globalImplicit
theorem gl_of {x : Str} (h : GlS sc x) (j : F.ι) : Gl (F.X j) x := by
  show (F.X j).env.scope.names.lookup x = _
  rw [F.sc']
  exact h
theorem ex_glob {x : Str} {pos : Pos} {u : Value} {v : V} {d : D} (hm : mg x = some u) (r : RelV v u) (rd : ∀ W, Rep K W v d) (hg : GlS sc x := by rfl) (hd : (x == ("__debug__" : Str)) = false := by decide) : EX F (.Name x pos) (wC d) :=
  ex_c (fun j => pe_glob (gl_of hg j) (by rw [F.mg']; exact hm) r hd) rd

/-! ### operators -/
/-- an operator's rule over trees: f at each context; o: what it does -/
def OpD (F : Fam P w K mg base N sc k) (f : Value → Value → Sem Value) (o : Op2) : Prop := ∃ r : R2, (∀ j, OpR (F.X j) f r) ∧ ∀ W H x y dx dy (q : D → Prop) (Q : VK), Holds W H → View K W H x dx → View K W H y dy → o dx dy q →
  (∀ v d W' H', q d → Ext W H W' H' → New K W H W' H' v d → Q v H') → r x y H Q
theorem two {a b : Expr} {wa wb : WE} (ha : EV F a wa) (hb : EV F b wb) {o : Op2} {r : R2} (hr : ∀ W H x y dx dy (q : D → Prop) (Q : VK), Holds W H → View K W H x dx → View K W H y dy → o dx dy q →
    (∀ v d W' H', q d → Ext W H W' H' → New K W H W' H' v d → Q v H') → r x y H Q) :
    ∃ ta tb, (∀ j, PE (F.X j) a ta) ∧ (∀ j, PE (F.X j) b tb) ∧ ∀ C Γ σ W H (q : D → Prop) (Q : VK), Sta K C Γ σ W H → wOp o wa wb Γ q → (∀ v d W' H', q d → Ext W H W' H' → New K W H W' H' v d → Q v H') → tOp r ta tb σ H Q := by
  obtain ⟨ta, a1, a2⟩ := ha
  obtain ⟨tb, b1, b2⟩ := hb
  refine ⟨ta, tb, a1, b1, fun C Γ σ W H q Q s hw c => ?_⟩
  refine a2 C Γ σ W H _ _ s hw fun x dx W1 H1 hq1 x1 r1 => ?_
  refine b2 C Γ σ W1 H1 _ _ (s.ext x1) hq1 fun y dy W2 H2 hq2 x2 r2 => ?_
  have x12 := x1.trans s.holds x2
  refine hr W2 H2 x y dx dy q Q x12.holds (r1.ext x2) r2 hq2 fun v d W' H' hq x3 n => ?_
  refine c v d W' H' hq (x12.trans s.holds x3) ?_
  rcases n with n | ⟨p, ob, e1, e2, n⟩
  · exact .inl n
  · exact .inr ⟨p, ob, e1, x12.nn s.holds e2, n⟩
theorem ef_op {op : Operator} {o : Op2} {a b : Expr} {wa wb : WE} {pos : Pos} (ho : OpD F (binaryOp op) o) (ha : EV F a wa) (hb : EV F b wb) : EF F (.BinOp a op b pos) (wOp o wa wb) := by
  obtain ⟨r, h1, h2⟩ := ho
  obtain ⟨ta, tb, a1, b1, h⟩ := two ha hb h2
  exact ⟨_, fun j => pe_op (h1 j) (a1 j) (b1 j), h⟩
theorem ef_cmp {op : CmpOp} {o : Op2} {a b : Expr} {wa wb : WE} {pos : Pos} (ho : OpD F (compareOp op) o) (ha : EV F a wa) (hb : EV F b wb) (hm : behindInMarks op b = false := by first | exact nomark _ | rfl) : EF F (.Compare a [op] [b] pos) (wOp o wa wb) := by
  obtain ⟨r, h1, h2⟩ := ho
  obtain ⟨ta, tb, a1, b1, h⟩ := two ha hb h2
  exact ⟨_, fun j => pe_cmpR (h1 j) (a1 j) (b1 j) hm, h⟩
/-- a truth value, whatever was made for it -/
theorem New.bl {W W' : Wd} {H H' : Hp} {v : V} {d : D} {b : Bool} (n : New K W H W' H' v d) (e : d = .bl b) : v = .bl b := by
  subst e
  rcases n with ⟨_, r⟩ | ⟨p, o, _, _, _, _, _, r⟩
  · cases r; rfl
  · cases r
theorem kBl_of {d : D} {q : Bool → Prop} (h : kBl d q) : ∃ b, d = .bl b ∧ q b := by
  cases d <;> first | exact ⟨_, rfl, h⟩ | exact h.elim
theorem kInt_of {d : D} {q : Int → Prop} (h : kInt d q) : ∃ b, d = .int b ∧ q b := by
  cases d <;> first | exact ⟨_, rfl, h⟩ | exact h.elim
theorem kStr_of {d : D} {q : List Nat → Prop} (h : kStr d q) : ∃ b, d = .str b ∧ q b := by
  cases d <;> first | exact ⟨_, rfl, h⟩ | exact h.elim
theorem kLst_of {d : D} {q : List D → Prop} (h : kLst d q) : ∃ b, d = .lst b ∧ q b := by
  cases d <;> first | exact ⟨_, rfl, h⟩ | exact h.elim
theorem kTup_of {d : D} {q : List D → Prop} (h : kTup d q) : ∃ b, d = .tup b ∧ q b := by
  cases d <;> first | exact ⟨_, rfl, h⟩ | exact h.elim
theorem kDic_of {d : D} {q : List (D × D) → Prop} (h : kDic d q) : ∃ b, d = .dic b ∧ q b := by
  cases d <;> first | exact ⟨_, rfl, h⟩ | exact h.elim
/-- a comparison as a test -/
theorem et_cmp {op : CmpOp} {o : Op2} {a b : Expr} {wa wb : WE} {pos : Pos} (ho : OpD F (compareOp op) o) (ha : EV F a wa) (hb : EV F b wb) (hm : behindInMarks op b = false := by first | exact nomark _ | rfl) : ET F (.Compare a [op] [b] pos) (wTest (wOp o wa wb)) := by
  obtain ⟨r, h1, h2⟩ := ho
  obtain ⟨ta, tb, a1, b1, h⟩ := two ha hb h2
  refine ⟨_, fun j => pt_cmpR (h1 j) (a1 j) (b1 j) hm, fun C Γ σ W H q Q s hw c => ?_⟩
  refine h C Γ σ W H _ _ s hw fun v d W' H' hq x n => ?_
  obtain ⟨b, e, hq⟩ := kBl_of hq
  exact ⟨b, n.bl e, c b W' H' hq x⟩
/-- an expression that gives a truth value -/
theorem et_val {e : Expr} {we : WE} (h : EV F e we) (he : ∀ (j : F.ι) whole, isTrue e (F.X j).env whole = (do let v ← whole; standAt e.pos; holding [v] (truthy v)) := by intro _ _; rfl) : ET F e (wTest we) := by
  obtain ⟨te, h1, h2⟩ := h
  refine ⟨_, fun j => pt_val (h1 j) (he j), fun C Γ σ W H q Q s hw c => ?_⟩
  refine h2 C Γ σ W H _ _ s hw fun v d W' H' hq x n => ?_
  obtain ⟨b, e, hq⟩ := kBl_of hq
  subst e
  have r := n.rep_flat rfl
  cases r
  exact ⟨b, rfl, c b W' H' hq x⟩
theorem EW.et {e : Expr} {wt : WT} (h : EW F e wt) : ET F e wt := by
  obtain ⟨tt, h1, h2⟩ := h
  exact ⟨tt, fun j => (h1 j).pt, h2⟩
section
variable {a b c : Expr} {rest : List Expr} {ta tb : WT} {wa wb wc : WE} {pos : Pos}
theorem ew_and1 (ha : ET F a ta) : EW F (.BoolOp .And [a] pos) ta := by
  obtain ⟨tt, h1, h2⟩ := ha
  exact ⟨tt, fun j => pw_and1 (h1 j), h2⟩
theorem ew_or1 (ha : ET F a ta) : EW F (.BoolOp .Or [a] pos) ta := by
  obtain ⟨tt, h1, h2⟩ := ha
  exact ⟨tt, fun j => pw_or1 (h1 j), h2⟩
theorem ew_and (ha : ET F a ta) (hb : EW F (.BoolOp .And (b :: rest) pos) tb) : EW F (.BoolOp .And (a :: b :: rest) pos) (wAnd ta tb) := by
  obtain ⟨t1, a1, a2⟩ := ha
  obtain ⟨t2, b1, b2⟩ := hb
  refine ⟨_, fun j => pw_and (a1 j) (b1 j), fun C Γ σ W H q Q s hw c => ?_⟩
  refine a2 C Γ σ W H _ _ s hw fun x W1 H1 hq1 x1 => ?_
  cases x with
  | true => exact iteT (b2 C Γ σ W1 H1 _ _ (s.ext x1) (by simpa using hq1) fun y W2 H2 hq2 x2 => c y W2 H2 hq2 (x1.trans s.holds x2))
  | false => exact iteF (c false W1 H1 (by simpa using hq1) x1)
theorem ew_or (ha : ET F a ta) (hb : EW F (.BoolOp .Or (b :: rest) pos) tb) : EW F (.BoolOp .Or (a :: b :: rest) pos) (wOr ta tb) := by
  obtain ⟨t1, a1, a2⟩ := ha
  obtain ⟨t2, b1, b2⟩ := hb
  refine ⟨_, fun j => pw_or (a1 j) (b1 j), fun C Γ σ W H q Q s hw c => ?_⟩
  refine a2 C Γ σ W H _ _ s hw fun x W1 H1 hq1 x1 => ?_
  cases x with
  | true => exact iteT (c true W1 H1 (by simpa using hq1) x1)
  | false => exact iteF (b2 C Γ σ W1 H1 _ _ (s.ext x1) (by simpa using hq1) fun y W2 H2 hq2 x2 => c y W2 H2 hq2 (x1.trans s.holds x2))
theorem et_not (ha : ET F a ta) : ET F (.UnaryOp .Not a pos) (wNot ta) := by
  obtain ⟨t1, a1, a2⟩ := ha
  exact ⟨_, fun j => pt_not (a1 j), fun C Γ σ W H q Q s hw c => a2 C Γ σ W H _ _ s hw fun x W1 H1 hq1 x1 => c _ W1 H1 hq1 x1⟩
theorem bl_view {W : Wd} {H : Hp} {v : V} {d : D} {q : Bool → Prop} (r : View K W H v d) (h : kBl d q) : ∃ b, v = .bl b ∧ d = .bl b ∧ q b := by
  obtain ⟨b, rfl, hq⟩ := kBl_of h
  have r := r.rep_flat rfl
  cases r
  exact ⟨b, rfl, rfl, hq⟩
theorem ex_one {op : BoolOp} (h : EX F a wa) : EX F (.BoolOp op [a] pos) wa := by
  obtain ⟨te, h1, h2⟩ := h
  exact ⟨te, fun j => pe_one (h1 j), h2⟩
theorem ex_and (ha : EX F a wa) (hb : EX F (.BoolOp .And (b :: rest) pos) wb) : EX F (.BoolOp .And (a :: b :: rest) pos) (wAndV wa wb) := by
  obtain ⟨t1, a1, a2⟩ := ha
  obtain ⟨t2, b1, b2⟩ := hb
  refine ⟨_, fun j => pe_and (a1 j) (b1 j), fun C Γ σ W H q Q s hw c => ?_⟩
  refine a2 C Γ σ W H _ _ s hw fun x d W1 H1 hq1 x1 r => ?_
  obtain ⟨b, rfl, _, hq1⟩ := bl_view (.rep r : View K W1 H1 x d) hq1
  refine ⟨b, rfl, ?_⟩
  cases b with
  | true => exact iteT (b2 C Γ σ W1 H1 _ _ (s.ext x1) (by simpa using hq1) fun y d2 W2 H2 hq2 x2 r2 => c y d2 W2 H2 hq2 (x1.trans s.holds x2) r2)
  | false => exact iteF (c _ _ W1 H1 (by simpa using hq1) x1 (.bl false))
theorem ex_or (ha : EX F a wa) (hb : EX F (.BoolOp .Or (b :: rest) pos) wb) : EX F (.BoolOp .Or (a :: b :: rest) pos) (wOrV wa wb) := by
  obtain ⟨t1, a1, a2⟩ := ha
  obtain ⟨t2, b1, b2⟩ := hb
  refine ⟨_, fun j => pe_or (a1 j) (b1 j), fun C Γ σ W H q Q s hw c => ?_⟩
  refine a2 C Γ σ W H _ _ s hw fun x d W1 H1 hq1 x1 r => ?_
  obtain ⟨b, rfl, _, hq1⟩ := bl_view (.rep r : View K W1 H1 x d) hq1
  refine ⟨b, rfl, ?_⟩
  cases b with
  | true => exact iteT (c _ _ W1 H1 (by simpa using hq1) x1 (.bl true))
  | false => exact iteF (b2 C Γ σ W1 H1 _ _ (s.ext x1) (by simpa using hq1) fun y d2 W2 H2 hq2 x2 r2 => c y d2 W2 H2 hq2 (x1.trans s.holds x2) r2)
theorem ex_not (ha : EX F a wa) : EX F (.UnaryOp .Not a pos) (wNotV wa) := by
  obtain ⟨t1, a1, a2⟩ := ha
  refine ⟨_, fun j => pe_not (a1 j), fun C Γ σ W H q Q s hw c => ?_⟩
  refine a2 C Γ σ W H _ _ s hw fun x d W1 H1 hq1 x1 r => ?_
  obtain ⟨b, rfl, _, hq1⟩ := bl_view (.rep r : View K W1 H1 x d) hq1
  exact ⟨b, rfl, c _ _ W1 H1 hq1 x1 (.bl _)⟩
theorem ex_if {t : WT} (ht : ET F c t) (ha : EX F a wa) (hb : EX F b wb) : EX F (.IfExp c a b pos) (wIf t wa wb) := by
  obtain ⟨tt, h1, h2⟩ := ht
  obtain ⟨t1, a1, a2⟩ := ha
  obtain ⟨t2, b1, b2⟩ := hb
  refine ⟨_, fun j => pe_ifExp (h1 j) (a1 j) (b1 j), fun C Γ σ W H q Q s hw c => ?_⟩
  refine h2 C Γ σ W H _ _ s hw fun x W1 H1 hq1 x1 => ?_
  cases x with
  | true => exact iteT (a2 C Γ σ W1 H1 _ _ (s.ext x1) (by simpa using hq1) fun y d2 W2 H2 hq2 x2 r2 => c y d2 W2 H2 hq2 (x1.trans s.holds x2) r2)
  | false => exact iteF (b2 C Γ σ W1 H1 _ _ (s.ext x1) (by simpa using hq1) fun y d2 W2 H2 hq2 x2 r2 => c y d2 W2 H2 hq2 (x1.trans s.holds x2) r2)
theorem ev_if {t : WT} (ht : ET F c t) (ha : EV F a wa) (hb : EV F b wb) : EV F (.IfExp c a b pos) (wIf t wa wb) := by
  obtain ⟨tt, h1, h2⟩ := ht
  obtain ⟨t1, a1, a2⟩ := ha
  obtain ⟨t2, b1, b2⟩ := hb
  refine ⟨_, fun j => pe_ifExp (h1 j) (a1 j) (b1 j), fun C Γ σ W H q Q s hw c => ?_⟩
  refine h2 C Γ σ W H _ _ s hw fun x W1 H1 hq1 x1 => ?_
  cases x with
  | true => exact iteT (a2 C Γ σ W1 H1 _ _ (s.ext x1) (by simpa using hq1) fun y d2 W2 H2 hq2 x2 r2 => c y d2 W2 H2 hq2 (x1.trans s.holds x2) r2)
  | false => exact iteF (b2 C Γ σ W1 H1 _ _ (s.ext x1) (by simpa using hq1) fun y d2 W2 H2 hq2 x2 r2 => c y d2 W2 H2 hq2 (x1.trans s.holds x2) r2)
theorem New.ext {W W1 W' : Wd} {H H1 H' : Hp} {v : V} {d : D} (hw : Holds W H) (x : Ext W H W1 H1) (n : New K W1 H1 W' H' v d) : New K W H W' H' v d := by
  rcases n with n | ⟨p, ob, e1, e2, n⟩
  · exact .inl n
  · exact .inr ⟨p, ob, e1, x.nn hw e2, n⟩
theorem ef_if {t : WT} (ht : ET F c t) (ha : EF F a wa) (hb : EF F b wb) : EF F (.IfExp c a b pos) (wIf t wa wb) := by
  obtain ⟨tt, h1, h2⟩ := ht
  obtain ⟨t1, a1, a2⟩ := ha
  obtain ⟨t2, b1, b2⟩ := hb
  refine ⟨_, fun j => pe_ifExp (h1 j) (a1 j) (b1 j), fun C Γ σ W H q Q s hw c => ?_⟩
  refine h2 C Γ σ W H _ _ s hw fun x W1 H1 hq1 x1 => ?_
  cases x with
  | true => exact iteT (a2 C Γ σ W1 H1 _ _ (s.ext x1) (by simpa using hq1) fun y d2 W2 H2 hq2 x2 r2 => c y d2 W2 H2 hq2 (x1.trans s.holds x2) (r2.ext s.holds x1))
  | false => exact iteF (b2 C Γ σ W1 H1 _ _ (s.ext x1) (by simpa using hq1) fun y d2 W2 H2 hq2 x2 r2 => c y d2 W2 H2 hq2 (x1.trans s.holds x2) (r2.ext s.holds x1))
theorem er_if {t : WT} {rk : RK} (ht : ET F c t) (ha : ER F rk a wa) (hb : ER F rk b wb) : ER F rk (.IfExp c a b pos) (wIf t wa wb) := by
  obtain ⟨tt, h1, h2⟩ := ht
  obtain ⟨t1, a1, a2⟩ := ha
  obtain ⟨t2, b1, b2⟩ := hb
  refine ⟨_, fun j => pe_ifExp (h1 j) (a1 j) (b1 j), fun C Γ σ W H q Q s hw c => ?_⟩
  refine h2 C Γ σ W H _ _ s hw fun x W1 H1 hq1 x1 => ?_
  cases x with
  | true => exact iteT (a2 C Γ σ W1 H1 _ _ (s.ext x1) (by simpa using hq1) fun v d W' H' hq l => c v d W' H' hq (x1.le.trans l))
  | false => exact iteF (b2 C Γ σ W1 H1 _ _ (s.ext x1) (by simpa using hq1) fun v d W' H' hq l => c v d W' H' hq (x1.le.trans l))
/-- a < b < c -/
theorem chain_core {o o' : Op2} {r r' : R2} {ta' tb' tc' : TE} (hr : ∀ W H x y dx dy (q : D → Prop) (Q : VK), Holds W H → View K W H x dx → View K W H y dy → o dx dy q → (∀ v d W' H', q d → Ext W H W' H' → New K W H W' H' v d → Q v H') → r x y H Q)
    (hr' : ∀ W H x y dx dy (q : D → Prop) (Q : VK), Holds W H → View K W H x dx → View K W H y dy → o' dx dy q → (∀ v d W' H', q d → Ext W H W' H' → New K W H W' H' v d → Q v H') → r' x y H Q)
    (a2 : ∀ C Γ σ W H (q : D → Prop) (Q : VK), Sta K C Γ σ W H → wa Γ q → (∀ v d W' H', q d → Ext W H W' H' → View K W' H' v d → Q v H') → ta' σ H Q)
    (b2 : ∀ C Γ σ W H (q : D → Prop) (Q : VK), Sta K C Γ σ W H → wb Γ q → (∀ v d W' H', q d → Ext W H W' H' → View K W' H' v d → Q v H') → tb' σ H Q)
    (c2 : ∀ C Γ σ W H (q : D → Prop) (Q : VK), Sta K C Γ σ W H → wc Γ q → (∀ v d W' H', q d → Ext W H W' H' → View K W' H' v d → Q v H') → tc' σ H Q) :
    ∀ C Γ σ W H (q : D → Prop) (Q : VK), Sta K C Γ σ W H → wChain o o' wa wb wc Γ q → (∀ v d W' H', q d → Ext W H W' H' → New K W H W' H' v d → Q v H') → tChain r r' ta' tb' tc' σ H Q := by
  intro C Γ σ W H q Q s hw cc
  refine a2 C Γ σ W H _ _ s hw fun x dx W1 H1 hq1 x1 r1 => ?_
  refine b2 C Γ σ W1 H1 _ _ (s.ext x1) hq1 fun y dy W2 H2 hq2 x2 r2 => ?_
  have x12 := x1.trans s.holds x2
  refine hr W2 H2 x y dx dy _ _ x12.holds (r1.ext x2) r2 hq2 fun v d W3 H3 hq3 x3 n => ?_
  have x13 := x12.trans s.holds x3
  obtain ⟨b, e, hq3⟩ := kBl_of hq3
  refine ⟨b, n.bl e, ?_⟩
  cases b with
  | true =>
    refine iteT (c2 C Γ σ W3 H3 _ _ (s.ext x13) (by simpa using hq3) fun z dz W4 H4 hq4 x4 r4 => ?_)
    have x14 := x13.trans s.holds x4
    exact hr' W4 H4 y z dy dz q Q x14.holds ((r2.ext x3).ext x4) r4 hq4 fun v d W5 H5 hq5 x5 n5 => cc v d W5 H5 hq5 (x14.trans s.holds x5) (n5.ext s.holds x14)
  | false => exact iteF (cc _ _ W3 H3 (by simpa using hq3) x13 (.inl ⟨rfl, .bl false⟩))
theorem ef_chain {op op' : CmpOp} {o o' : Op2} (ho : OpD F (compareOp op) o) (ho' : OpD F (compareOp op') o') (ha : EV F a wa) (hb : EV F b wb) (hc : EV F c wc) (hm : lastMarks [op, op'] [b, c] = false := by with_unfolding_all rfl) : EF F (.Compare a [op, op'] [b, c] pos) (wChain o o' wa wb wc) := by
  obtain ⟨r, h1, h2⟩ := ho
  obtain ⟨r', h1', h2'⟩ := ho'
  obtain ⟨t1, a1, a2⟩ := ha
  obtain ⟨t2, b1, b2⟩ := hb
  obtain ⟨t3, c1, c2⟩ := hc
  exact ⟨_, fun j => pe_chain (h1 j) (h1' j) (a1 j) (b1 j) (c1 j) (hm := hm), chain_core h2 h2' a2 b2 c2⟩
theorem et_chain {op op' : CmpOp} {o o' : Op2} (ho : OpD F (compareOp op) o) (ho' : OpD F (compareOp op') o') (ha : EV F a wa) (hb : EV F b wb) (hc : EV F c wc) (hm : lastMarks [op, op'] [b, c] = false := by with_unfolding_all rfl) : ET F (.Compare a [op, op'] [b, c] pos) (wTest (wChain o o' wa wb wc)) := by
  obtain ⟨r, h1, h2⟩ := ho
  obtain ⟨r', h1', h2'⟩ := ho'
  obtain ⟨t1, a1, a2⟩ := ha
  obtain ⟨t2, b1, b2⟩ := hb
  obtain ⟨t3, c1, c2⟩ := hc
  refine ⟨_, fun j => pt_chain (h1 j) (h1' j) (a1 j) (b1 j) (c1 j) (hm := hm), fun C Γ σ W H q Q s hw cc => ?_⟩
  refine chain_core h2 h2' a2 b2 c2 C Γ σ W H _ _ s hw fun v d W' H' hq x n => ?_
  obtain ⟨b, e, hq⟩ := kBl_of hq
  exact ⟨b, n.bl e, cc b W' H' hq x⟩
end

/-! ### arguments and displays -/
theorem ea_nil : EA F [] [] wNil := ⟨tNil, fun _ => pa_nil, fun C Γ σ W H q Q s hw c => c [] [] W H hw (.refl s.holds) .nil⟩
theorem ea_sh {e : Expr} {es : List Expr} {ms : List Bool} {we : WE} {wa : WA} (h : EX F e we) (t : EA F ms es wa) (hs : ∀ j : F.ι, starEach (e :: es) (F.X j).env = (false, eval e (F.X j).env) :: starEach es (F.X j).env := by intro _; rfl) : EA F (true :: ms) (e :: es) (wCons we wa) := by
  obtain ⟨t1, a1, a2⟩ := h
  obtain ⟨t2, b1, b2⟩ := t
  refine ⟨_, fun j => pa_cons (a1 j) (b1 j) (hs j), fun C Γ σ W H q Q s hw c => ?_⟩
  refine a2 C Γ σ W H _ _ s hw fun x d W1 H1 hq1 x1 r => ?_
  exact b2 C Γ σ W1 H1 _ _ (s.ext x1) hq1 fun vs ds W2 H2 hq2 x2 r2 => c _ _ W2 H2 hq2 (x1.trans s.holds x2) (.sh (r.le x2.le) r2)
theorem ea_bo {e : Expr} {es : List Expr} {ms : List Bool} {we : WE} {wa : WA} (h : EV F e we) (t : EA F ms es wa) (hs : ∀ j : F.ι, starEach (e :: es) (F.X j).env = (false, eval e (F.X j).env) :: starEach es (F.X j).env := by intro _; rfl) : EA F (false :: ms) (e :: es) (wCons we wa) := by
  obtain ⟨t1, a1, a2⟩ := h
  obtain ⟨t2, b1, b2⟩ := t
  refine ⟨_, fun j => pa_cons (a1 j) (b1 j) (hs j), fun C Γ σ W H q Q s hw c => ?_⟩
  refine a2 C Γ σ W H _ _ s hw fun x d W1 H1 hq1 x1 r => ?_
  exact b2 C Γ σ W1 H1 _ _ (s.ext x1) hq1 fun vs ds W2 H2 hq2 x2 r2 => c _ _ W2 H2 hq2 (x1.trans s.holds x2) (.bo (r.ext x2) r2)
theorem SZ_eq : SZ = sizeLine := sizeLine_eq.symm
theorem new_tup {W : Wd} {H : Hp} {vs : List V} {ds : List D} {p : Addr} (h : Holds W H) (r : Reps K W vs ds) (n : H p = none) : ∃ W', Ext W H W' (upd H p (.tup vs)) ∧ Rep K W' (.ref p) (.tup ds) := by
  obtain ⟨x, hB, hP⟩ := Ext.upd (o := .tup vs) h n
  exact ⟨W.put p (.tup vs), x.put n hB hP upd_same, .tup (.of (show upd W.B p _ p = _ from upd_same)) (r.le (Wd.put_le hB))⟩
theorem new_obj {W : Wd} {H : Hp} {o : HO} {d : D} {p : Addr} (h : Holds W H) (r : RepO K W o d) (n : H p = none) : Ext W H W (upd H p o) ∧ New K W H W (upd H p o) (.ref p) d := by
  obtain ⟨x, hB, hP⟩ := Ext.upd (o := o) h n
  exact ⟨x, .inr ⟨p, o, rfl, n, hB, hP, upd_same, r⟩⟩
theorem ex_tup {es : List Expr} {ms : List Bool} {wa : WA} {x1 : Nat} {pos : Pos} (h : EA F ms es wa) (hm : ms.all id = true := by rfl) : EX F (.Tuple es x1 pos) (wTup wa) := by
  obtain ⟨t1, a1, a2⟩ := h
  refine ⟨_, fun j => pe_tup (a1 j), fun C Γ σ W H q Q s hw c => ?_⟩
  refine a2 C Γ σ W H _ _ s hw fun vs ds W1 H1 hq1 x1 r => ?_
  have r := r.reps hm
  refine ⟨by rw [r.length, ← SZ_eq]; exact hq1.1, fun p hp => ?_⟩
  obtain ⟨W', x', r'⟩ := new_tup x1.holds r hp
  exact c _ _ W' _ hq1.2 (x1.trans s.holds x') r'
theorem ef_lst {es : List Expr} {ms : List Bool} {wa : WA} {pos : Pos} (h : EA F ms es wa) (hm : ms.all id = true := by rfl) : EF F (.List es pos) (wLst wa) := by
  obtain ⟨t1, a1, a2⟩ := h
  refine ⟨_, fun j => pe_lst (a1 j), fun C Γ σ W H q Q s hw c => ?_⟩
  refine a2 C Γ σ W H _ _ s hw fun vs ds W1 H1 hq1 x1 r => ?_
  have r := r.reps hm
  refine ⟨by rw [r.length, ← SZ_eq]; exact hq1.1, fun p hp => ?_⟩
  obtain ⟨x', n'⟩ := new_obj x1.holds (.lst r) hp
  exact c _ _ W1 _ hq1.2 (x1.trans s.holds x') (n'.ext s.holds x1)

/-! ### calls -/
section
variable {f : Addr} {fd : FuncData} {ps : List Str} {ms : List Bool} {rk : RK} {sp : Spec} {k' : Nat} {x : Str} {p pos : Pos} {e : Expr} {es : List Expr} {wa : WA}
theorem call_core {W : Wd} {H : Hp} {vs : List V} {ds : List D} {q : D → Prop} {Q : VK} {E : XK} (hw : Holds W H) (r : AR K W H ms vs ds) (h : sp.pre ds ∧ ∀ d, sp.post ds d → q d) (c : ∀ v d W' H', q d → Ext W H W' H' → Res K W H W' H' v d rk → Q v H') : SpD K ms rk sp vs H Q E :=
  ⟨W, ds, hw, r, h.1, fun v d W' H' hp x y => c v d W' H' (h.2 d hp) x y⟩
theorem pe_callF (G : FnOk P w K mg base CX0 k' f fd ps (SpD K ms rk sp)) (hm : mg x = some (.ref f)) (hk : PySem.W.keepIn K (.ref f) = true) (hb : Binds K fd ps []) (hl : k' ≤ k) (hg : GlS sc x) (hdb : (x == ("__debug__" : Str)) = false)
    {ta : TA} (ha : ∀ j, PA (F.X j) (e :: es) ta) (hs : ∀ j : F.ι, starEach (e :: es) (F.X j).env = (false, eval e (F.X j).env) :: starEach es (F.X j).env) (hpl : ∀ j : F.ι, (backTo pos (starEach es (F.X j).env)).any (·.1) = false) (j : F.ι) :
    PE (F.X j) (.Call (.Name x p) (e :: es) [] pos) (tCall (SpD K ms rk sp) [] E0 ta) := by
  have G' : FnOk (F.X j).prog (F.X j).w (F.X j).K (F.X j).mg (F.X j).base CX0 k' f fd ps (SpD K ms rk sp) := by
    rw [F.prog, F.w', F.K', F.mg', F.base']
    exact G
  exact pe_call G' ((F.room j).mono hl) (gl_of hg j) (by rw [F.mg']; exact hm) (by rw [F.K']; exact hk) (by rw [F.K']; exact hb) .nil pass0 (ha j) hdb (hs j) (hpl j)
theorem ex_call (G : FnOk P w K mg base CX0 k' f fd ps (SpD K ms .sh sp)) (hm : mg x = some (.ref f)) (hk : PySem.W.keepIn K (.ref f) = true) (hb : Binds K fd ps []) (ha : EA F ms (e :: es) wa) (hl : k' ≤ k := by decide) (hg : GlS sc x := by rfl) (hdb : (x == ("__debug__" : Str)) = false := by decide)
    (hs : ∀ j : F.ι, starEach (e :: es) (F.X j).env = (false, eval e (F.X j).env) :: starEach es (F.X j).env := by intro _; rfl) (hpl : ∀ j : F.ι, (backTo pos (starEach es (F.X j).env)).any (·.1) = false := by intro _; rfl) :
    EX F (.Call (.Name x p) (e :: es) [] pos) (wCall sp wa) := by
  obtain ⟨ta, a1, a2⟩ := ha
  refine ⟨_, pe_callF G hm hk hb hl hg hdb a1 hs hpl, fun C Γ σ W H q Q s hw c => ?_⟩
  refine a2 C Γ σ W H _ _ s hw fun vs ds W1 H1 hq1 x1 r => ?_
  show SpD K ms .sh sp (vs ++ []) H1 Q E0
  rw [List.append_nil]
  exact call_core x1.holds r hq1 fun v d W' H' hq x' r' => c v d W' H' hq (x1.trans s.holds x') r'
theorem ef_call (G : FnOk P w K mg base CX0 k' f fd ps (SpD K ms .fr sp)) (hm : mg x = some (.ref f)) (hk : PySem.W.keepIn K (.ref f) = true) (hb : Binds K fd ps []) (ha : EA F ms (e :: es) wa) (hl : k' ≤ k := by decide) (hg : GlS sc x := by rfl) (hdb : (x == ("__debug__" : Str)) = false := by decide)
    (hs : ∀ j : F.ι, starEach (e :: es) (F.X j).env = (false, eval e (F.X j).env) :: starEach es (F.X j).env := by intro _; rfl) (hpl : ∀ j : F.ι, (backTo pos (starEach es (F.X j).env)).any (·.1) = false := by intro _; rfl) :
    EF F (.Call (.Name x p) (e :: es) [] pos) (wCall sp wa) := by
  obtain ⟨ta, a1, a2⟩ := ha
  refine ⟨_, pe_callF G hm hk hb hl hg hdb a1 hs hpl, fun C Γ σ W H q Q s hw c => ?_⟩
  refine a2 C Γ σ W H _ _ s hw fun vs ds W1 H1 hq1 x1 r => ?_
  show SpD K ms .fr sp (vs ++ []) H1 Q E0
  rw [List.append_nil]
  exact call_core x1.holds r hq1 fun v d W' H' hq x' r' => c v d W' H' hq (x1.trans s.holds x') (New.ext s.holds x1 r')
/-- a built-in function over trees -/
def CallD (F : Fam P w K mg base N sc k) (g : Value) (fn : Fn) : Prop := ∃ r : List V → Hp → VK → Prop, (∀ j, CallR (F.X j) g r) ∧ ∀ W H ms vs ds (q : D → Prop) (Q : VK), Holds W H → AR K W H ms vs ds → fn ds q →
  (∀ v d W' H', q d → Ext W H W' H' → New K W H W' H' v d → Q v H') → r vs H Q
theorem ef_callB {id : String} {fn : Fn} (hc : CallD F (.builtin id) fn) (hm : mg x = none) (hv : bootBuiltins x = some (.builtin id)) (ha : EA F ms (e :: es) wa) (hg : GlS sc x := by rfl) (hn : x ≠ "__name__" := by decide) (hdb : (x == ("__debug__" : Str)) = false := by decide)
    (hs : ∀ j : F.ι, starEach (e :: es) (F.X j).env = (false, eval e (F.X j).env) :: starEach es (F.X j).env := by intro _; rfl) (hpl : ∀ j : F.ι, (backTo pos (starEach es (F.X j).env)).any (·.1) = false := by intro _; rfl) :
    EF F (.Call (.Name x p) (e :: es) [] pos) (wFn fn wa) := by
  obtain ⟨ta, a1, a2⟩ := ha
  obtain ⟨r, h1, h2⟩ := hc
  refine ⟨_, fun j => pe_callB (h1 j) (gl_of hg j) (by rw [F.mg']; exact hm) hv (a1 j) hn hdb (hs j) (hpl j), fun C Γ σ W H q Q s hw c => ?_⟩
  refine a2 C Γ σ W H _ _ s hw fun vs ds W1 H1 hq1 x1 rr => ?_
  exact h2 W1 H1 _ vs ds q Q x1.holds rr hq1 fun v d W' H' hq x' n => c v d W' H' hq (x1.trans s.holds x') (n.ext s.holds x1)
theorem ef_callT {T : String} {fn : Fn} (hc : CallD F (.type T) fn) (hm : mg x = none) (hv : bootBuiltins x = some (.type T)) (ha : EA F ms (e :: es) wa) (hg : GlS sc x := by rfl) (hn : x ≠ "__name__" := by decide) (hdb : (x == ("__debug__" : Str)) = false := by decide)
    (hs : ∀ j : F.ι, starEach (e :: es) (F.X j).env = (false, eval e (F.X j).env) :: starEach es (F.X j).env := by intro _; rfl) (hpl : ∀ j : F.ι, (backTo pos (starEach es (F.X j).env)).any (·.1) = false := by intro _; rfl) :
    EF F (.Call (.Name x p) (e :: es) [] pos) (wFn fn wa) := by
  obtain ⟨ta, a1, a2⟩ := ha
  obtain ⟨r, h1, h2⟩ := hc
  refine ⟨_, fun j => pe_callTy (h1 j) (gl_of hg j) (by rw [F.mg']; exact hm) hv (a1 j) hn hdb (hs j) (hpl j), fun C Γ σ W H q Q s hw c => ?_⟩
  refine a2 C Γ σ W H _ _ s hw fun vs ds W1 H1 hq1 x1 rr => ?_
  exact h2 W1 H1 _ vs ds q Q x1.holds rr hq1 fun v d W' H' hq x' n => c v d W' H' hq (x1.trans s.holds x') (n.ext s.holds x1)
end
end
end DL

/-! DOps: operators, built-in functions, methods of texts over trees. -/
namespace DL
open PySem PySem.Spec PyProof.Rows L2
variable [WW]
section
variable {P : Program} {w : World} {K : PySem.W.Frag} {mg : Str → Option Value} {base : Heap} {N : List Str} {sc : Scope} {k : Nat}
variable {F : Fam P w K mg base N sc k} {C : Ctx}

/-! ### what a view tells -/
section
variable {W : Wd} {H : Hp} {v : V}
theorem View.int {i : Int} (h : View K W H v (.int i)) : v = .int i := by
  have r := h.rep_flat rfl
  cases r; rfl
theorem View.str {s : List Nat} (h : View K W H v (.str s)) : v = .str (S s) := by
  have r := h.rep_flat rfl
  cases r; rfl
theorem View.bl {b : Bool} (h : View K W H v (.bl b)) : v = .bl b := by
  have r := h.rep_flat rfl
  cases r; rfl
theorem View.non (h : View K W H v .non) : v = .non := by
  have r := h.rep_flat rfl
  cases r; rfl
theorem View.tup (hw : Holds W H) {ds : List D} (h : View K W H v (.tup ds)) : ∃ a vs, v = .ref a ∧ SqT K H a vs ∧ Reps K W vs ds := by
  have r := h.rep_flat rfl
  cases r with
  | tup q r => exact ⟨_, _, rfl, hw.seqT q, r⟩
theorem View.scr (hw : Holds W H) {ds : List D} (h : View K W H v (.scr ds)) : ∃ a vs, v = .ref a ∧ SqL K H a vs ∧ Reps K W vs ds := by
  have r := h.rep_flat rfl
  cases r with
  | scr q r => exact ⟨_, _, rfl, hw.seqL q, r⟩
theorem View.lst (hw : Holds W H) {ds : List D} (h : View K W H v (.lst ds)) : ∃ a vs, v = .ref a ∧ H a = some (.lst vs) ∧ Reps K W vs ds := by
  cases h with
  | rep r =>
    cases r with
    | lst q r => exact ⟨_, _, rfl, (hw.b _ _ q).lst, r⟩
  | own q p r =>
    cases r with
    | lst r => exact ⟨_, _, rfl, q.lst, r⟩
theorem View.dic (hw : Holds W H) {es : List (D × D)} (h : View K W H v (.dic es)) : ∃ a kvs, v = .ref a ∧ Rd H a (.dK kvs) ∧ RepK K W kvs es := by
  cases h with
  | rep r =>
    cases r with
    | dk q r => exact ⟨_, _, rfl, (hw.b _ _ q).rd, r⟩
  | own q p r =>
    cases r with
    | dk r => exact ⟨_, _, rfl, q.rd, r⟩
theorem View.dit (hw : Holds W H) {es : List (D × D)} (h : View K W H v (.dit es)) : ∃ a b xs, v = .ref a ∧ Rd H a (NdO b xs) ∧ RepN K W xs es := by
  cases h with
  | rep r =>
    cases r with
    | dn q r => exact ⟨_, _, _, rfl, (hw.b _ _ q).rd, r⟩
  | own q p r =>
    cases r with
    | dn r => exact ⟨_, _, _, rfl, q.rd, r⟩
end
/-- an answer that leaves the heap -/
theorem flat_ans {W : Wd} {H : Hp} {q : D → Prop} {Q : VK} {v : V} {d : D} (hw : Holds W H) (c : ∀ v d W' H', q d → Ext W H W' H' → New K W H W' H' v d → Q v H') (hq : q d) (r : Rep K W v d) (f : d.flat = true := by rfl) : Q v H :=
  c v d W H hq (.refl hw) (.inl ⟨f, r⟩)
theorem lst_ans {W : Wd} {H : Hp} {q : D → Prop} {Q : VK} {vs : List V} {ds : List D} (hw : Holds W H) (c : ∀ v d W' H', q d → Ext W H W' H' → New K W H W' H' v d → Q v H') (hq : q (.lst ds)) (r : Reps K W vs ds) : ∀ p, H p = none → Q (.ref p) (upd H p (.lst vs)) := fun p hp => by
  obtain ⟨x, n⟩ := new_obj hw (.lst r) hp
  exact c _ _ W _ hq x n
theorem tup_ans {W : Wd} {H : Hp} {q : D → Prop} {Q : VK} {vs : List V} {ds : List D} (hw : Holds W H) (c : ∀ v d W' H', q d → Ext W H W' H' → New K W H W' H' v d → Q v H') (hq : q (.tup ds)) (r : Reps K W vs ds) : ∀ p, H p = none → Q (.ref p) (upd H p (.tup vs)) := fun p hp => by
  obtain ⟨W', x, n⟩ := new_tup hw r hp
  exact c _ _ W' _ hq x (.inl ⟨rfl, n⟩)

/-! ### arithmetic -/
theorem OpR.at {f : Value → Value → Sem Value} {r : PySem.W.Frag → R2} (h : ∀ X : Cx, OpR X f (r X.K)) (j : F.ι) : OpR (F.X j) f (r K) := by
  have := h (F.X j)
  rw [F.K'] at this
  exact this
theorem op_addD : OpD F (binaryOp .Add) oAdd := by
  refine ⟨_, fun j => OpR.or op_add (OpR.or op_add_str (OpR.or (OpR.at (r := rCatA) (fun X => op_catA) j) op_cat)), fun W H x y dx dy q Q hw vx vy h c => ?_⟩
  cases dx <;> cases dy <;> first
    | exact (h : False).elim
    | skip
  · have e1 := vx.int
    have e2 := vy.int
    subst e1 e2
    exact .inl ⟨_, _, rfl, rfl, flat_ans hw c h (.int _)⟩
  · rename_i s t
    have e1 := vx.str
    have e2 := vy.str
    subst e1 e2
    refine .inr (.inl ⟨_, _, rfl, rfl, by rw [S_len, S_len, ← SZ_eq]; exact h.1, ?_⟩)
    have e : S s ++ S t = S (s ++ t) := SX.S_cat s t
    rw [e]
    exact flat_ans hw c h.2 (.str _)
  · obtain ⟨a, vs, rfl, qa, ra⟩ := vx.tup hw
    obtain ⟨b, ws, rfl, qb, rb⟩ := vy.tup hw
    refine .inr (.inr (.inl ⟨a, b, vs, ws, rfl, rfl, qa, qb, by rw [ra.length, rb.length, ← SZ_eq]; exact h.1, ?_⟩))
    have ra' : Rep K W (.ref a) (.tup _) := vx.rep_flat rfl
    have rb' : Rep K W (.ref b) (.tup _) := vy.rep_flat rfl
    refine ⟨fun e => ?_, fun _ e => ?_, fun _ _ => tup_ans hw c h.2 (ra.append rb)⟩
    · subst e
      cases ra
      exact flat_ans hw c h.2 rb'
    · subst e
      cases rb
      have h2 := h.2
      rw [List.append_nil] at h2
      exact flat_ans hw c h2 ra'
  · obtain ⟨a, vs, rfl, qa, ra⟩ := vx.lst hw
    obtain ⟨b, ws, rfl, qb, rb⟩ := vy.lst hw
    exact .inr (.inr (.inr ⟨a, b, vs, ws, rfl, rfl, qa, qb, by rw [ra.length, rb.length, ← SZ_eq]; exact h.1, lst_ans hw c h.2 (ra.append rb)⟩))
theorem op_subD : OpD F (binaryOp .Sub) oSub := by
  refine ⟨_, fun j => op_sub, fun W H x y dx dy q Q hw vx vy h c => ?_⟩
  obtain ⟨i, rfl, h1⟩ := kInt_of h
  obtain ⟨j, rfl, h2⟩ := kInt_of h1
  exact ⟨i, j, vx.int, vy.int, flat_ans hw c h2 (.int _)⟩
theorem op_fdivD : OpD F (binaryOp .FloorDiv) oFdiv := by
  refine ⟨_, fun j => op_fdiv, fun W H x y dx dy q Q hw vx vy h c => ?_⟩
  obtain ⟨i, rfl, h1⟩ := kInt_of h
  obtain ⟨j, rfl, h2, h3⟩ := kInt_of h1
  exact ⟨i, j, vx.int, vy.int, h2, flat_ans hw c h3 (.int _)⟩
theorem op_modD : OpD F (binaryOp .Mod) oMod := by
  refine ⟨_, fun j => op_mod, fun W H x y dx dy q Q hw vx vy h c => ?_⟩
  obtain ⟨i, rfl, h1⟩ := kInt_of h
  obtain ⟨j, rfl, h2, h3⟩ := kInt_of h1
  exact ⟨i, j, vx.int, vy.int, h2, flat_ans hw c h3 (.int _)⟩
theorem op_powD : OpD F (binaryOp .Pow) oPow := by
  refine ⟨_, fun j => op_pow, fun W H x y dx dy q Q hw vx vy h c => ?_⟩
  obtain ⟨i, rfl, h1⟩ := kInt_of h
  obtain ⟨j, rfl, h2, h3⟩ := kInt_of h1
  exact ⟨i, j, vx.int, vy.int, h2, flat_ans hw c h3 (.int _)⟩
/-- a text times an int -/
theorem foldl_cat : ∀ (n : Nat) (a b : Array Nat), ((List.replicate n a).foldl (· ++ ·) b).toList = b.toList ++ (List.replicate n a.toList).flatten
  | 0, a, b => by simp
  | n + 1, a, b => by
    rw [List.replicate_succ, List.foldl_cons, foldl_cat n a, List.replicate_succ, List.flatten_cons, Array.toList_append, List.append_assoc]
theorem mul_S (s : List Nat) (n : Int) : PySem.Txt.mul (S s) n = S (List.replicate n.toNat s).flatten := by
  unfold PySem.Txt.mul
  by_cases h : n < 1
  · rw [if_pos h, show n.toNat = 0 by omega]
    rfl
  · rw [if_neg h]
    split
    · rename_i e
      rw [Bool.or_eq_true] at e
      rcases e with e | e
      · have e : n = 1 := by simpa using e
        rw [e]
        show S s = S (List.replicate 1 s).flatten
        simp
      · have e : (S s).length = 0 := by simpa using e
        rw [S_len] at e
        have e : s = [] := List.length_eq_zero_iff.mp e
        subst e
        have : (List.replicate n.toNat ([] : List Nat)).flatten = [] := by simp
        rw [this]
    · have q := foldl_cat n.toNat (S s).cps #[]
      have q2 : (List.replicate n.toNat (S s).cps).foldl (· ++ ·) #[] = (List.replicate n.toNat s).flatten.toArray := by
        apply Array.toList_inj.mp
        rw [q]
        simp
      rw [q2]
theorem op_repS {X : Cx} : OpR X (binaryOp .Mult) (fun x y H Q => ∃ (s : List Nat) (n : Int), x = .str (S s) ∧ y = .int n ∧ s.length * n.toNat ≤ SZ ∧ n < 2 ^ 63 ∧ -(2 ^ 63) ≤ n ∧ Q (.str (S (List.replicate n.toNat s).flatten)) H) := by
  intro pins s σ H x y v u Q I rx ry h
  obtain ⟨z, n, rfl, rfl, h1, h2, h3, q⟩ := h
  obtain ⟨t, rfl⟩ := rx
  obtain ⟨t', rfl⟩ := ry
  refine PySem.SB.mul ⟨?_, fun h4 h5 h6 => ?_, fun h4 h5 => ?_⟩ fun t' k => ?_
  · rw [Bool.or_eq_false_iff]
    exact ⟨decide_eq_false (by omega), decide_eq_false (by omega)⟩
  · rw [S_len] at h6
    have h7 : (z.length : Int) * n ≤ 16777216 := by
      have : ((z.length * n.toNat : Nat) : Int) ≤ ((16777216 : Nat) : Int) := Int.ofNat_le.mpr h1
      rw [Int.natCast_mul] at this
      rw [Int.toNat_of_nonneg (by omega)] at this
      exact this
    have h8 : ((2 : Int) ^ 63 - 1) / n < z.length := h6
    have h9 : (2 : Int) ^ 63 - 1 < z.length * n := by
      have := (Int.ediv_lt_iff_lt_mul (by omega : 0 < n)).mp h8
      exact this
    omega
  · have h6 : (S z).length * n.toNat ≤ sizeLine := by rw [S_len, sizeLine_eq]; exact h1
    generalize (S z).length * n.toNat = m at h6
    unfold PySem.Builtin.Str.tooLong
    exact decide_eq_false (Nat.not_lt.mpr h6)
  · rw [mul_S]
    exact ⟨.str _, H, I.tok k, ⟨t', rfl⟩, q⟩
theorem op_mulD : OpD F (binaryOp .Mult) oMul := by
  refine ⟨_, fun j => OpR.or op_mul op_repS, fun W H x y dx dy q Q hw vx vy h c => ?_⟩
  cases dx <;> cases dy <;> first
    | exact (h : False).elim
    | skip
  · exact .inl ⟨_, _, vx.int, vy.int, h.1, flat_ans hw c h.2 (.int _)⟩
  · obtain ⟨⟨h1, h2, h3⟩, h4⟩ := h
    exact .inr ⟨_, _, vx.str, vy.int, h1, h2, h3, flat_ans hw c h4 (.str _)⟩
theorem ef_neg {a : Expr} {wa : WE} {pos : Pos} (ha : EV F a wa) : EF F (.UnaryOp .USub a pos) (wNeg wa) := by
  obtain ⟨t1, a1, a2⟩ := ha
  refine ⟨_, fun j => pe_un un_neg (a1 j), fun C Γ σ W H q Q s hw c => ?_⟩
  refine a2 C Γ σ W H _ _ s hw fun x d W1 H1 hq1 x1 r => ?_
  obtain ⟨i, rfl, h1⟩ := kInt_of hq1
  exact ⟨i, r.int, c _ _ W1 H1 h1 x1 (.inl ⟨rfl, .int _⟩)⟩

/-! ### order, ==, is -/
theorem lt_S (s t : List Nat) : decide ((S s).cps.toList < (S t).cps.toList) = decide (s < t) := rfl
theorem lexI_eq : ∀ xs ys, HT.lexLt xs ys = lexI xs ys
  | [], [] => rfl
  | [], _ :: _ => rfl
  | _ :: _, [] => rfl
  | x :: xs, y :: ys => by
    unfold HT.lexLt lexI
    by_cases h : x = y
    · simp [h, lexI_eq xs ys]
    · simp [h]
theorem reps_ints {W : Wd} : ∀ {xs : List V} {ds : List D} {is : List Int}, Reps K W xs ds → intsD ds = some is → xs = is.map V.int
  | _, _, is, .nil, e => by cases e; rfl
  | _, d :: ds, is, .cons r rs, e => by
    cases d with
    | int i =>
      cases z : intsD ds with
      | none => rw [intsD, z] at e; cases e
      | some js =>
        rw [intsD, z] at e
        cases e
        cases r
        rw [reps_ints rs z]
        rfl
    | _ => cases e
theorem op_ltT' (j : F.ι) : OpR (F.X j) (compareOp .Lt) (rLtT K) := by
  have := op_ltT (X := F.X j) (Nat.lt_of_succ_lt (hu_of (F.room j)))
  rw [F.K'] at this
  exact this
theorem op_ltD : OpD F (compareOp .Lt) oLt := by
  refine ⟨_, fun j => OpR.or (OpR.or op_lt op_lt_str) (op_ltT' j), fun W H x y dx dy q Q hw vx vy h c => ?_⟩
  cases dx <;> cases dy <;> first
    | exact (h : False).elim
    | skip
  · exact .inl (.inl ⟨_, _, vx.int, vy.int, flat_ans hw c h (.bl _)⟩)
  · exact .inl (.inr ⟨_, _, vx.str, vy.str, flat_ans hw c h (.bl _)⟩)
  · obtain ⟨is, js, h1, h2, h3⟩ := h
    obtain ⟨a, vs, rfl, q1, r1⟩ := vx.tup hw
    obtain ⟨b, us, rfl, q2, r2⟩ := vy.tup hw
    rw [reps_ints r1 h1] at q1
    rw [reps_ints r2 h2] at q2
    refine .inr ⟨a, b, is, js, rfl, rfl, q1, q2, ?_⟩
    rw [lexI_eq]
    exact flat_ans hw c h3 (.bl _)
theorem op_leD : OpD F (compareOp .LtE) oLe := by
  refine ⟨_, fun j => OpR.or op_le op_le_str, fun W H x y dx dy q Q hw vx vy h c => ?_⟩
  cases dx <;> cases dy <;> first
    | exact (h : False).elim
    | skip
  · exact .inl ⟨_, _, vx.int, vy.int, flat_ans hw c h (.bl _)⟩
  · exact .inr ⟨_, _, vx.str, vy.str, flat_ans hw c h (.bl _)⟩
theorem op_gtD : OpD F (compareOp .Gt) oGt := by
  refine ⟨_, fun j => OpR.or op_gt op_gt_str, fun W H x y dx dy q Q hw vx vy h c => ?_⟩
  cases dx <;> cases dy <;> first
    | exact (h : False).elim
    | skip
  · exact .inl ⟨_, _, vx.int, vy.int, flat_ans hw c h (.bl _)⟩
  · exact .inr ⟨_, _, vx.str, vy.str, flat_ans hw c h (.bl _)⟩
theorem op_geD : OpD F (compareOp .GtE) oGe := by
  refine ⟨_, fun j => OpR.or op_ge op_ge_str, fun W H x y dx dy q Q hw vx vy h c => ?_⟩
  cases dx <;> cases dy <;> first
    | exact (h : False).elim
    | skip
  · exact .inl ⟨_, _, vx.int, vy.int, flat_ans hw c h (.bl _)⟩
  · exact .inr ⟨_, _, vx.str, vy.str, flat_ans hw c h (.bl _)⟩
mutual
/-- the data that == reads -/
def D.py : D → PyData
  | .bl b => .bool b
  | .int i => .int i
  | .str s => .str (S s)
  | .tup xs => .tuple (D.pys xs)
  | .lst xs => .list (D.pys xs)
  | _ => .none
def D.pys : List D → List PyData
  | [] => []
  | x :: xs => D.py x :: D.pys xs
end
mutual
theorem View.dp {W : Wd} {H : Hp} (hw : Holds W H) : ∀ {n : Nat} {d : D} {v : V}, d.plain n = true → View K W H v d → Dp K H v d.py
  | n, .non, v, _, h => by rw [h.non]; exact .non
  | n, .bl b, v, _, h => by rw [h.bl]; exact .bl b
  | n, .int i, v, _, h => by rw [h.int]; exact .int i
  | n, .str s, v, _, h => by rw [h.str]; exact .str _
  | n + 1, .tup ds, v, p, h => by
    obtain ⟨a, vs, rfl, q, r⟩ := h.tup hw
    exact .tup q (Reps.dp hw (n := n) (by simpa [D.plain] using p) r)
  | n + 1, .lst ds, v, p, h => by
    obtain ⟨a, vs, rfl, q, r⟩ := h.lst hw
    exact .lst (.of q) (Reps.dp hw (n := n) (by simpa [D.plain] using p) r)
  | 0, .tup ds, v, p, h => by simp [D.plain] at p
  | 0, .lst ds, v, p, h => by simp [D.plain] at p
  | n, .dic ds, v, p, h => by cases n <;> simp [D.plain] at p
  | n, .tok, v, p, h => by cases n <;> simp [D.plain] at p
  | n, .scr ds, v, p, h => by cases n <;> simp [D.plain] at p
  | n, .dit ds, v, p, h => by cases n <;> simp [D.plain] at p
theorem Reps.dp {W : Wd} {H : Hp} (hw : Holds W H) : ∀ {n : Nat} {ds : List D} {vs : List V}, D.plains n ds = true → Reps K W vs ds → DpAll K H vs (D.pys ds)
  | _, [], _, _, .nil => .nil
  | n, d :: ds, _, p, .cons r t => by
    have p : (d.plain n && D.plains n ds) = true := by cases n <;> simpa [D.plains] using p
    rw [Bool.and_eq_true] at p
    exact .cons (View.dp hw p.1 (.rep r)) (Reps.dp hw p.2 t)
end
mutual
theorem py_canLay : ∀ {n : Nat} {d : D}, d.plain n = true → d.py.canLay0 = true
  | n, .non, _ => rfl
  | n, .bl b, _ => rfl
  | n, .int i, _ => rfl
  | n, .str s, h => by
    have h : (s.all fun c => decide (c < 1114112)) = true := by cases n <;> simpa [D.plain] using h
    show (S s).cps.all (· < 0x110000) = true
    rw [all_S]
    exact h
  | n + 1, .tup ds, p => pys_canLay (n := n) (by simpa [D.plain] using p)
  | n + 1, .lst ds, p => pys_canLay (n := n) (by simpa [D.plain] using p)
  | 0, .tup ds, p => by simp [D.plain] at p
  | 0, .lst ds, p => by simp [D.plain] at p
  | n, .dic ds, p => by cases n <;> simp [D.plain] at p
  | n, .tok, p => by cases n <;> simp [D.plain] at p
  | n, .scr ds, p => by cases n <;> simp [D.plain] at p
  | n, .dit ds, p => by cases n <;> simp [D.plain] at p
theorem pys_canLay : ∀ {n : Nat} {ds : List D}, D.plains n ds = true → PyData.canLayAll0 (D.pys ds) = true
  | _, [], _ => rfl
  | n, d :: ds, p => by
    have p : (d.plain n && D.plains n ds) = true := by cases n <;> simpa [D.plains] using p
    rw [Bool.and_eq_true] at p
    show (d.py.canLay0 && PyData.canLayAll0 (D.pys ds)) = true
    rw [py_canLay p.1, pys_canLay p.2]
    rfl
end
mutual
theorem py_depth : ∀ {n : Nat} {d : D}, d.plain n = true → d.py.depth ≤ n
  | n, .non, _ => Nat.zero_le _
  | n, .bl b, _ => Nat.zero_le _
  | n, .int i, _ => Nat.zero_le _
  | n, .str s, h => Nat.zero_le _
  | n + 1, .tup ds, p => Nat.succ_le_succ (pys_depth (n := n) (by simpa [D.plain] using p))
  | n + 1, .lst ds, p => Nat.succ_le_succ (pys_depth (n := n) (by simpa [D.plain] using p))
  | 0, .tup ds, p => by simp [D.plain] at p
  | 0, .lst ds, p => by simp [D.plain] at p
  | n, .dic ds, p => by cases n <;> simp [D.plain] at p
  | n, .tok, p => by cases n <;> simp [D.plain] at p
  | n, .scr ds, p => by cases n <;> simp [D.plain] at p
  | n, .dit ds, p => by cases n <;> simp [D.plain] at p
theorem pys_depth : ∀ {n : Nat} {ds : List D}, D.plains n ds = true → PyData.depthAll (D.pys ds) ≤ n
  | _, [], _ => Nat.zero_le _
  | n, d :: ds, p => by
    have p : (d.plain n && D.plains n ds) = true := by cases n <;> simpa [D.plains] using p
    rw [Bool.and_eq_true] at p
    exact Nat.max_le.mpr ⟨py_depth p.1, pys_depth p.2⟩
end
theorem py_shaped {d : D} (h : d.plain 60 = true) : SeqAt.shaped d.py = true := by
  unfold SeqAt.shaped
  rw [py_canLay h, Bool.true_and]
  exact decide_eq_true (Nat.le_trans (py_depth h) (by decide))
theorem pys_shaped {ds : List D} (h : D.plains 60 ds = true) : SeqAt.shaped (.list (D.pys ds)) = true := by
  unfold SeqAt.shaped
  rw [show (PyData.list (D.pys ds)).canLay0 = true from pys_canLay h, Bool.true_and]
  exact decide_eq_true (Nat.le_trans (Nat.succ_le_succ (pys_depth h)) (by decide))
theorem beq_S (s t : List Nat) : (S s == S t) = (s == t) := SX.S_beq s t
mutual
theorem py_eqv : ∀ {m n : Nat} {d e : D}, d.plain m = true → e.plain n = true → PyData.eqv d.py e.py = d.eqv e
  | m, n, .non, e, _, h => by cases e <;> first | rfl | (cases n <;> simp [D.plain] at h)
  | m, n, .bl b, e, _, h => by cases e <;> first | rfl | (cases n <;> simp [D.plain] at h)
  | m, n, .int i, e, _, h => by cases e <;> first | rfl | (cases n <;> simp [D.plain] at h)
  | m, n, .str s, .str t, _, _ => beq_S s t
  | m, n, .str s, .non, _, _ => rfl
  | m, n, .str s, .bl _, _, _ => rfl
  | m, n, .str s, .int _, _, _ => rfl
  | m, n, .str s, .tup _, _, _ => rfl
  | m, n, .str s, .lst _, _, _ => rfl
  | m, n, .str s, .dic _, _, h => by cases n <;> simp [D.plain] at h
  | m, n, .str s, .tok, _, h => by cases n <;> simp [D.plain] at h
  | m, n, .str s, .scr _, _, h => by cases n <;> simp [D.plain] at h
  | m, n, .str s, .dit _, _, h => by cases n <;> simp [D.plain] at h
  | m + 1, n + 1, .tup ds, .tup es, p, h => pys_eqv (m := m) (n := n) (by simpa [D.plain] using p) (by simpa [D.plain] using h)
  | m + 1, n + 1, .lst ds, .lst es, p, h => pys_eqv (m := m) (n := n) (by simpa [D.plain] using p) (by simpa [D.plain] using h)
  | m + 1, 0, .tup ds, .tup es, p, h => by simp [D.plain] at h
  | m + 1, 0, .lst ds, .lst es, p, h => by simp [D.plain] at h
  | m + 1, n, .tup ds, .non, _, _ => rfl
  | m + 1, n, .tup ds, .bl _, _, _ => rfl
  | m + 1, n, .tup ds, .int _, _, _ => rfl
  | m + 1, n, .tup ds, .str _, _, _ => rfl
  | m + 1, n, .tup ds, .lst _, _, _ => rfl
  | m + 1, n, .tup ds, .dic _, _, h => by cases n <;> simp [D.plain] at h
  | m + 1, n, .tup ds, .tok, _, h => by cases n <;> simp [D.plain] at h
  | m + 1, n, .tup ds, .scr _, _, h => by cases n <;> simp [D.plain] at h
  | m + 1, n, .tup ds, .dit _, _, h => by cases n <;> simp [D.plain] at h
  | m + 1, n, .lst ds, .non, _, _ => rfl
  | m + 1, n, .lst ds, .bl _, _, _ => rfl
  | m + 1, n, .lst ds, .int _, _, _ => rfl
  | m + 1, n, .lst ds, .str _, _, _ => rfl
  | m + 1, n, .lst ds, .tup _, _, _ => rfl
  | m + 1, n, .lst ds, .dic _, _, h => by cases n <;> simp [D.plain] at h
  | m + 1, n, .lst ds, .tok, _, h => by cases n <;> simp [D.plain] at h
  | m + 1, n, .lst ds, .scr _, _, h => by cases n <;> simp [D.plain] at h
  | m + 1, n, .lst ds, .dit _, _, h => by cases n <;> simp [D.plain] at h
  | 0, _, .tup ds, _, p, _ => by simp [D.plain] at p
  | 0, _, .lst ds, _, p, _ => by simp [D.plain] at p
  | m, _, .dic ds, _, p, _ => by cases m <;> simp [D.plain] at p
  | m, _, .tok, _, p, _ => by cases m <;> simp [D.plain] at p
  | m, _, .scr ds, _, p, _ => by cases m <;> simp [D.plain] at p
  | m, _, .dit ds, _, p, _ => by cases m <;> simp [D.plain] at p
theorem pys_eqv : ∀ {m n : Nat} {ds es : List D}, D.plains m ds = true → D.plains n es = true → PyData.eqvAll (D.pys ds) (D.pys es) = D.eqvs ds es
  | _, _, [], [], _, _ => rfl
  | _, _, [], _ :: _, _, _ => rfl
  | _, _, _ :: _, [], _, _ => rfl
  | m, n, d :: ds, e :: es, p, h => by
    have p : (d.plain m && D.plains m ds) = true := by cases m <;> simpa [D.plains] using p
    have h : (e.plain n && D.plains n es) = true := by cases n <;> simpa [D.plains] using h
    rw [Bool.and_eq_true] at p h
    show (PyData.eqv d.py e.py && PyData.eqvAll (D.pys ds) (D.pys es)) = (d.eqv e && D.eqvs ds es)
    rw [py_eqv p.1 h.1, pys_eqv p.2 h.2]
end
/-- a scalar value -/
def D.val : D → V
  | .bl b => .bl b
  | .int i => .int i
  | .str s => .str (S s)
  | _ => .non
theorem View.scal {W : Wd} {H : Hp} {v : V} {d : D} (h : View K W H v d) (s : d.scal = true) : v = d.val := by
  cases d <;> first
    | exact h.non
    | exact h.bl
    | exact h.int
    | exact h.str
    | cases s
theorem str_dec (s t : List Nat) : decide (V.str (S s) = V.str (S t)) = (s == t) := by rw [dec_str, beq_S]
theorem scal2_ok : ∀ {d e : D}, scal2 d e = true → L2.scal d.val e.val = true ∧ decide (d.val = e.val) = d.eqv e
  | .non, .non, _ => ⟨rfl, rfl⟩
  | .non, .bl _, _ => ⟨rfl, rfl⟩
  | .non, .int _, _ => ⟨rfl, rfl⟩
  | .non, .str _, _ => ⟨rfl, rfl⟩
  | .bl _, .non, _ => ⟨rfl, rfl⟩
  | .bl _, .bl _, _ => ⟨rfl, dec_bl⟩
  | .bl _, .str _, _ => ⟨rfl, rfl⟩
  | .int _, .non, _ => ⟨rfl, rfl⟩
  | .int _, .int _, _ => ⟨rfl, dec_int⟩
  | .int _, .str _, _ => ⟨rfl, rfl⟩
  | .str _, .non, _ => ⟨rfl, rfl⟩
  | .str _, .bl _, _ => ⟨rfl, rfl⟩
  | .str _, .int _, _ => ⟨rfl, rfl⟩
  | .str s, .str t, _ => ⟨rfl, str_dec s t⟩
  | .bl _, .int _, h => by cases h
  | .int _, .bl _, h => by cases h
  | .tup _, _, h => by cases h
  | .lst _, _, h => by cases h
  | .dic _, _, h => by cases h
  | .tok, _, h => by cases h
  | .scr _, _, h => by cases h
  | .dit _, _, h => by cases h
  | .non, .tup _, h => by cases h
  | .non, .lst _, h => by cases h
  | .non, .dic _, h => by cases h
  | .non, .tok, h => by cases h
  | .non, .scr _, h => by cases h
  | .non, .dit _, h => by cases h
  | .bl _, .tup _, h => by cases h
  | .bl _, .lst _, h => by cases h
  | .bl _, .dic _, h => by cases h
  | .bl _, .tok, h => by cases h
  | .bl _, .scr _, h => by cases h
  | .bl _, .dit _, h => by cases h
  | .int _, .tup _, h => by cases h
  | .int _, .lst _, h => by cases h
  | .int _, .dic _, h => by cases h
  | .int _, .tok, h => by cases h
  | .int _, .scr _, h => by cases h
  | .int _, .dit _, h => by cases h
  | .str _, .tup _, h => by cases h
  | .str _, .lst _, h => by cases h
  | .str _, .dic _, h => by cases h
  | .str _, .tok, h => by cases h
  | .str _, .scr _, h => by cases h
  | .str _, .dit _, h => by cases h
theorem scal2_scal {d e : D} (h : scal2 d e = true) : d.scal = true ∧ e.scal = true := by
  cases d <;> cases e <;> first | exact ⟨rfl, rfl⟩ | cases h
theorem op_eqT : OpD F (compareOp .Eq) oEq := by
  refine ⟨_, fun j => OpR.or op_eq (by
    have := op_eqD (X := F.X j) (F.room j).units
    rw [F.K'] at this
    exact this), fun W H x y dx dy q Q hw vx vy h c => ?_⟩
  obtain ⟨h | h, hq⟩ := h
  · obtain ⟨s1, s2⟩ := scal2_scal h
    obtain ⟨e1, e2⟩ := scal2_ok h
    rw [vx.scal s1, vy.scal s2]
    refine .inl ⟨e1, ?_⟩
    rw [e2]
    exact flat_ans hw c hq (.bl _)
  · refine .inr ⟨_, _, vx.dp hw h.1, vy.dp hw h.2, py_shaped h.1, py_shaped h.2, ?_⟩
    rw [py_eqv h.1 h.2]
    exact flat_ans hw c hq (.bl _)
theorem op_neT : OpD F (compareOp .NotEq) oNe := by
  refine ⟨_, fun j => OpR.or op_ne (by
    have := op_neD (X := F.X j) (F.room j).units
    rw [F.K'] at this
    exact this), fun W H x y dx dy q Q hw vx vy h c => ?_⟩
  obtain ⟨h | h, hq⟩ := h
  · obtain ⟨s1, s2⟩ := scal2_scal h
    obtain ⟨e1, e2⟩ := scal2_ok h
    rw [vx.scal s1, vy.scal s2]
    refine .inl ⟨e1, ?_⟩
    rw [e2]
    exact flat_ans hw c hq (.bl _)
  · refine .inr ⟨_, _, vx.dp hw h.1, vy.dp hw h.2, py_shaped h.1, py_shaped h.2, ?_⟩
    rw [py_eqv h.1 h.2]
    exact flat_ans hw c hq (.bl _)
end
end DL

/-! DFns: in, is, built-in functions, subscripts, methods of texts over trees. -/
namespace DL
open PySem PySem.Spec PyProof.Rows L2
variable [WW]
section
variable {P : Program} {w : World} {K : PySem.W.Frag} {mg : Str → Option Value} {base : Heap} {N : List Str} {sc : Scope} {k : Nat}
variable {F : Fam P w K mg base N sc k} {C : Ctx}

/-! ### in, not in -/
theorem val_flat {d : D} (h : d.scal = true) : flatV d.val = true := by
  cases d <;> first | rfl | cases h
theorem eqV_val : ∀ {d e : D}, d.scal = true → e.scal = true → eqV d.val e.val = d.eqv e := by
  intro d e h1 h2
  cases d <;> cases e <;> first
    | exact (Bool.false_ne_true h1).elim
    | exact (Bool.false_ne_true h2).elim
    | rfl
    | exact beq_S _ _
theorem Reps.scal {W : Wd} : ∀ {vs : List V} {ds : List D}, Reps K W vs ds → ds.all D.scal = true → vs = ds.map D.val
  | _, _, .nil, _ => rfl
  | _, _, .cons (v := v) r t, h => by
    rw [List.all_cons, Bool.and_eq_true] at h
    rw [View.scal (H := fun _ => none) (.rep r) h.1, Reps.scal t h.2]
    rfl
theorem inV_val {x : D} (hx : x.scal = true) : ∀ {ds : List D}, ds.all D.scal = true → inV x.val (ds.map D.val) = (ds.any fun z => z.eqv x) ∧ (ds.map D.val).all flatV = true
  | [], _ => ⟨rfl, rfl⟩
  | d :: ds, h => by
    rw [List.all_cons, Bool.and_eq_true] at h
    obtain ⟨i1, i2⟩ := inV_val hx h.2
    refine ⟨?_, ?_⟩
    · unfold inV at i1 ⊢
      rw [List.map_cons, List.any_cons, List.any_cons, i1, eqV_val h.1 hx]
    · rw [List.map_cons, List.all_cons, val_flat h.1, i2]
      rfl
theorem any_py {n : Nat} {x : D} (hx : x.plain n = true) : ∀ {ds : List D}, D.plains n ds = true → ((D.pys ds).any fun z => PyData.eqv z x.py) = ds.any fun z => z.eqv x
  | [], _ => rfl
  | d :: ds, h => by
    have h : (d.plain n && D.plains n ds) = true := by cases n <;> simpa [D.plains] using h
    rw [Bool.and_eq_true] at h
    show (PyData.eqv d.py x.py || (D.pys ds).any fun z => PyData.eqv z x.py) = _
    rw [List.any_cons, py_eqv h.1 hx, any_py hx h.2]
/-- y in d, y not in d -/
def rDIn (neg : Bool) : R2 := fun y x H Q => ∃ a o, x = .ref a ∧ DGet H a y o ∧ Q (.bl (if neg = true then !o.isSome else o.isSome)) H
theorem op_dinR {X : Cx} (hu : X.A.units + 1 < cLine) : OpR X (compareOp .In) (rDIn false) := by
  intro pins s σ H x y v u Q I rx ry h
  obtain ⟨a, o, rfl, g, q⟩ := h
  cases ry
  exact d_in hu I g rx fun s' I' => ⟨.bl _, H, I', rfl, q⟩
theorem op_dninR {X : Cx} (hu : X.A.units + 1 < cLine) : OpR X (compareOp .NotIn) (rDIn true) := by
  intro pins s σ H x y v u Q I rx ry h
  obtain ⟨a, o, rfl, g, q⟩ := h
  cases ry
  exact d_notIn hu I g rx fun s' I' => ⟨.bl _, H, I', rfl, q⟩
theorem hu1 {k : Nat} {A : Around} (r : Room k A) : A.units + 1 < cLine := hu_of r
theorem hu65 {k : Nat} {A : Around} (r : Room k A) : A.units + 65 < cLine := by have := r.un; omega
/-- in, not in, with the answer turned by neg -/
theorem in_core {neg : Bool} {r1 r2 r3 r4 r5 : R2} {o : Op2} (ho : ∀ x y q, o x y q = inD x y fun b => q (.bl (if neg = true then !b else b)))
    (h1 : ∀ (x y : V) (H : Hp) (Q : VK), rIn K neg x y H Q → r1 x y H Q) (h2 : ∀ (x y : V) (H : Hp) (Q : VK), rDIn neg x y H Q → r2 x y H Q)
    (h3 : ∀ (s t : List Nat) (c : Nat) (H : Hp) (Q : VK), Q (.bl (if neg = true then !decide (c ∈ s) else decide (c ∈ s))) H → r3 (.str (S [c])) (.str (S s)) H Q)
    (h4 : ∀ (x y : V) (d : PyData) (ds : List PyData) (H : Hp) (Q : VK), Dp K H x d → Dp K H y (.list ds) → SeqAt.shaped d = true → SeqAt.shaped (.list ds) = true → Q (.bl (if neg = true then !(ds.any fun z => PyData.eqv z d) else ds.any fun z => PyData.eqv z d)) H → r4 x y H Q)
    (h5 : ∀ (x y : V) (H : Hp) (Q : VK), rNIn K neg x y H Q → r5 x y H Q) :
    ∀ W H x y dx dy (q : D → Prop) (Q : VK), Holds W H → View K W H x dx → View K W H y dy → o dx dy q → (∀ v d W' H', q d → Ext W H W' H' → New K W H W' H' v d → Q v H') → r1 x y H Q ∨ r2 x y H Q ∨ r3 x y H Q ∨ r4 x y H Q ∨ r5 x y H Q := by
  intro W H x y dx dy q Q hw vx vy h c
  rw [ho] at h
  cases dy <;> first
    | exact (h : False).elim
    | skip
  · rename_i s
    obtain ⟨t, rfl, cc, rfl, hq⟩ := kStr_of h
    rw [vx.str, vy.str]
    exact .inr (.inr (.inl (h3 s s cc H Q (flat_ans hw c hq (.bl _)))))
  · obtain ⟨⟨h1', h2'⟩, hq⟩ := h
    obtain ⟨a, vs, rfl, qa, ra⟩ := vy.tup hw
    obtain ⟨i1, i2⟩ := inV_val h1' h2'
    have e := ra.scal h2'
    subst e
    rw [vx.scal h1']
    refine .inl (h1 _ _ _ _ ⟨a, _, rfl, .inr qa, val_flat h1', i2, ?_⟩)
    rw [i1]
    exact flat_ans hw c hq (.bl _)
  · rename_i ys
    obtain ⟨h0, hq⟩ := h
    obtain ⟨a, vs, rfl, qa, ra⟩ := vy.lst hw
    rcases h0 with ⟨h1', h2'⟩ | ⟨h1', h2'⟩
    · obtain ⟨i1, i2⟩ := inV_val h1' h2'
      have e := ra.scal h2'
      subst e
      rw [vx.scal h1']
      refine .inl (h1 _ _ _ _ ⟨a, _, rfl, .inl (.of qa), val_flat h1', i2, ?_⟩)
      rw [i1]
      exact flat_ans hw c hq (.bl _)
    · refine .inr (.inr (.inr (.inl (h4 _ _ _ _ _ _ (vx.dp hw h1') (.lst (.of qa) (ra.dp hw h2')) (py_shaped h1') (pys_shaped h2') ?_))))
      rw [any_py h1' h2']
      exact flat_ans hw c hq (.bl _)
  · rename_i kvs
    obtain ⟨a, es, rfl, qa, ra⟩ := vy.dic hw
    obtain ⟨kk, rfl, e⟩ := key_of (vx.rep_flat (by cases dx <;> first | rfl | exact (Bool.false_ne_true h.1).elim)) h.1
    subst e
    refine .inr (.inl (h2 _ _ _ _ ⟨a, _, rfl, .inl ⟨es, kk, qa, rfl, rfl⟩, ?_⟩))
    rw [ra.isSome]
    exact flat_ans hw c h.2 (.bl _)
  · obtain ⟨a, b, xs, rfl, qa, ra⟩ := vy.dit hw
    exact .inr (.inr (.inr (.inr (h5 _ _ _ _ ⟨W, a, b, xs, _, dx, rfl, hw, qa, ra, vx.rep_flat (by cases dx <;> first | rfl | exact (Bool.false_ne_true h.1).elim), h.1, flat_ans hw c h.2 (.bl _)⟩))))
theorem op_inD' (j : F.ι) : OpR (F.X j) (compareOp .In) (rInD K) := by
  have := op_inD (X := F.X j) (hu65 (F.room j))
  rw [F.K'] at this
  exact this
theorem op_ninD' (j : F.ι) : OpR (F.X j) (compareOp .NotIn) (rNotInD K) := by
  have := op_notInD (X := F.X j) (hu65 (F.room j))
  rw [F.K'] at this
  exact this
theorem nroom {k : Nat} {A : Around} (r : Room k A) : NRoom A := by have := hu65 r; unfold NRoom; omega
theorem op_nin' [Lk w] (j : F.ι) : OpR (F.X j) (compareOp .In) (rNIn K false) := by
  haveI : Lk (F.X j).w := by rw [F.w']; infer_instance
  have := op_nin (X := F.X j) (nroom (F.room j))
  rw [F.K'] at this
  exact this
theorem op_nnin' [Lk w] (j : F.ι) : OpR (F.X j) (compareOp .NotIn) (rNIn K true) := by
  haveI : Lk (F.X j).w := by rw [F.w']; infer_instance
  have := op_nnin (X := F.X j) (nroom (F.room j))
  rw [F.K'] at this
  exact this
theorem ix_nest' [Lk w] (j : F.ι) : IxR (F.X j) (rNIx K) := by
  haveI : Lk (F.X j).w := by rw [F.w']; infer_instance
  have := ix_nest (X := F.X j) (nroom (F.room j))
  rw [F.K'] at this
  exact this
theorem op_inT [Lk w] : OpD F (compareOp .In) oIn :=
  ⟨_, fun j => OpR.or (OpR.at (r := fun K => rIn K false) (fun X => op_in_seq) j) (OpR.or (op_dinR (hu1 (F.room j))) (OpR.or op_in_str (OpR.or (op_inD' j) (op_nin' j)))),
  in_core (neg := false) (fun _ _ _ => rfl) (fun _ _ _ _ h => h) (fun _ _ _ _ h => h) (fun s _ c H Q h => ⟨_, _, rfl, rfl, by rw [SX.in_one]; exact h⟩) (fun x y d ds H Q a b c' d' h => ⟨d, ds, a, b, c', d', h⟩) (fun _ _ _ _ h => h)⟩
theorem op_ninT [Lk w] : OpD F (compareOp .NotIn) oNin :=
  ⟨_, fun j => OpR.or (OpR.at (r := fun K => rIn K true) (fun X => op_notIn_seq) j) (OpR.or (op_dninR (hu1 (F.room j))) (OpR.or op_notin_str (OpR.or (op_ninD' j) (op_nnin' j)))),
  in_core (neg := true) (fun _ _ _ => rfl) (fun _ _ _ _ h => h) (fun _ _ _ _ h => h) (fun s _ c H Q h => ⟨_, _, rfl, rfl, by rw [SX.in_one]; exact h⟩) (fun x y d ds H Q a b c' d' h => ⟨d, ds, a, b, c', d', h⟩) (fun _ _ _ _ h => h)⟩

/-! ### is None, is True -/
theorem View.isNon {W : Wd} {H : Hp} {v : V} {d : D} (h : View K W H v d) : decide (v = .non) = d.isNon := by
  cases h with
  | rep r => cases r <;> rfl
  | own _ _ r => cases r <;> rfl
section
variable {a : Expr} {wa : WE} {pos p2 : Pos} {j2 : Nat}
theorem is_core {r : V → Hp → VK → Prop} {ta : TE} {f : D → Bool} (a2 : ∀ C Γ σ W H (q : D → Prop) (Q : VK), Sta K C Γ σ W H → wa Γ q → (∀ v d W' H', q d → Ext W H W' H' → View K W' H' v d → Q v H') → ta σ H Q)
    (hr : ∀ W H v d (Q : VK), View K W H v d → Q (.bl (f d)) H → r v H Q) : ∀ C Γ σ W H (q : D → Prop) (Q : VK), Sta K C Γ σ W H → wa Γ (fun x => q (.bl (f x))) → (∀ v d W' H', q d → Ext W H W' H' → New K W H W' H' v d → Q v H') →
    ta σ H fun x H1 => r x H1 Q := by
  intro C Γ σ W H q Q s hw c
  exact a2 C Γ σ W H _ _ s hw fun v d W' H' hq x r' => hr W' H' v d Q r' (c _ _ W' H' hq x (.inl ⟨rfl, .bl _⟩))
theorem ef_isN (ha : EV F a wa) : EF F (.Compare a [.Is] [.Constant .none j2 p2] pos) (wIsN wa) := by
  obtain ⟨ta, a1, a2⟩ := ha
  refine ⟨_, fun j => pe_cmp (pc_isN (a1 j)), is_core (r := fun x H Q => Q (.bl (decide (x = .non))) H) a2 fun W H v d Q r h => ?_⟩
  rw [r.isNon]; exact h
theorem ef_notN (ha : EV F a wa) : EF F (.Compare a [.IsNot] [.Constant .none j2 p2] pos) (wNotN wa) := by
  obtain ⟨ta, a1, a2⟩ := ha
  refine ⟨_, fun j => pe_cmp (pc_notN (a1 j)), is_core (r := fun x H Q => Q (.bl (!decide (x = .non))) H) a2 fun W H v d Q r h => ?_⟩
  rw [r.isNon]; exact h
/-! tests of None -/
theorem et_isN (ha : EV F a wa) : ET F (.Compare a [.Is] [.Constant .none j2 p2] pos) (wTest (wIsN wa)) := by
  obtain ⟨ta, a1, a2⟩ := ha
  refine ⟨_, fun j => pt_cmp (pc_isN (a1 j)), fun C Γ σ W H q Q s hw c => ?_⟩
  refine a2 C Γ σ W H _ _ s hw fun v d W' H' hq x r => ?_
  rw [r.isNon]
  exact ⟨_, rfl, c _ W' H' hq x⟩
theorem et_notN (ha : EV F a wa) : ET F (.Compare a [.IsNot] [.Constant .none j2 p2] pos) (wTest (wNotN wa)) := by
  obtain ⟨ta, a1, a2⟩ := ha
  refine ⟨_, fun j => pt_cmp (pc_notN (a1 j)), fun C Γ σ W H q Q s hw c => ?_⟩
  refine a2 C Γ σ W H _ _ s hw fun v d W' H' hq x r => ?_
  rw [r.isNon]
  exact ⟨_, rfl, c _ W' H' hq x⟩
end

/-! ### built-in functions -/
theorem bt_len : bootBuiltins "len" = some (.builtin "len") := by decide +kernel
theorem bt_abs : bootBuiltins "abs" = some (.builtin "abs") := by decide +kernel
theorem bt_min : bootBuiltins "min" = some (.builtin "min") := by decide +kernel
theorem bt_max : bootBuiltins "max" = some (.builtin "max") := by decide +kernel
theorem bt_all : bootBuiltins "all" = some (.builtin "all") := by decide +kernel
theorem bt_any : bootBuiltins "any" = some (.builtin "any") := by decide +kernel
theorem bt_sorted : bootBuiltins "sorted" = some (.builtin "sorted") := by decide +kernel
theorem bt_isinstance : bootBuiltins "isinstance" = some (.builtin "isinstance") := by decide +kernel
theorem bt_int : bootBuiltins "int" = some (.type "int") := by decide +kernel
theorem bt_str : bootBuiltins "str" = some (.type "str") := by decide +kernel
theorem bt_bool : bootBuiltins "bool" = some (.type "bool") := by decide +kernel
theorem bt_list : bootBuiltins "list" = some (.type "list") := by decide +kernel
theorem bt_tuple : bootBuiltins "tuple" = some (.type "tuple") := by decide +kernel
theorem bt_dict : bootBuiltins "dict" = some (.type "dict") := by decide +kernel
theorem CallR.at {f : Value} {r : PySem.W.Frag → List V → Hp → VK → Prop} (h : ∀ X : Cx, CallR X f (r X.K)) (j : F.ι) : CallR (F.X j) f (r K) := by
  have := h (F.X j)
  rw [F.K'] at this
  exact this
theorem AR.one {W : Wd} {H : Hp} {ms : List Bool} {vs : List V} {d : D} (r : AR K W H ms vs [d]) : ∃ v, vs = [v] ∧ View K W H v d := by
  cases r with
  | sh r t => cases t; exact ⟨_, rfl, .rep r⟩
  | bo r t => cases t; exact ⟨_, rfl, r⟩
theorem AR.two {W : Wd} {H : Hp} {ms : List Bool} {vs : List V} {d e : D} (r : AR K W H ms vs [d, e]) : ∃ v u, vs = [v, u] ∧ View K W H v d ∧ View K W H u e := by
  cases r with
  | sh r t => obtain ⟨u, rfl, h⟩ := t.one; exact ⟨_, _, rfl, .rep r, h⟩
  | bo r t => obtain ⟨u, rfl, h⟩ := t.one; exact ⟨_, _, rfl, r, h⟩
theorem fn1_of {f : D → (D → Prop) → Prop} {ds : List D} {q : D → Prop} (h : fn1 f ds q) : ∃ d, ds = [d] ∧ f d q := by
  match ds, h with
  | [d], h => exact ⟨d, rfl, h⟩
theorem fn2_of {f : D → D → (D → Prop) → Prop} {ds : List D} {q : D → Prop} (h : fn2 f ds q) : ∃ d e, ds = [d, e] ∧ f d e q := by
  match ds, h with
  | [d, e], h => exact ⟨d, e, rfl, h⟩
/-- len(d) -/
theorem call_lenR {X : Cx} : CallR X (.builtin "len") (fun xs H Q => ∃ a kvs, xs = [.ref a] ∧ Rd H a (.dK kvs) ∧ Q (.int kvs.length) H) := by
  intro pins s σ H xs us Q I r h
  obtain ⟨a, kvs, rfl, e, q⟩ := h
  obtain ⟨u, rfl, rx⟩ := vals1 r
  cases rx
  exact d_len I e fun t s' I' => ⟨.int _, H, I', ⟨t, rfl⟩, q⟩
theorem call_lenN {X : Cx} [Lk X.w] : CallR X (.builtin "len") (fun xs H Q => ∃ W a b ys es, xs = [.ref a] ∧ Holds W H ∧ Rd H a (NdO b ys) ∧ RepN X.K W ys es ∧ Q (.int es.length) H) := by
  intro pins s σ H xs us Q I r h
  obtain ⟨W, a, b, ys, es, rfl, hw, e, rr, q⟩ := h
  obtain ⟨u, rfl, rx⟩ := vals1 r
  cases (show u = Value.ref a from rx)
  obtain ⟨_, z, hs, zs, pr, hm⟩ := nd_dict I hw e rr
  have hm' : s.heap.DictKeyed (nestedKind X.prog X.w) a (pairsH zs) := ⟨zs, hm, rfl⟩
  have hl : (pairsH zs).length = es.length := by rw [pairsH_length, ← paired_len pr, rr.length]
  refine PyProof.Rows.call_len_slot (n := (pairsH zs).length) hm'.typeIs PySem.F.slot_dict_len (fun Q' hq => len_keyed hs hm' hq) (by omega) (by rw [hl, ← rr.length]; rw [sizeLine_eq] at z; omega) ?_
  rw [hl]
  exact ⟨.int _, H, I.tok _, ⟨_, rfl⟩, q⟩
theorem call_lenN' [Lk w] (j : F.ι) : CallR (F.X j) (.builtin "len") (fun xs H Q => ∃ W a b ys es, xs = [.ref a] ∧ Holds W H ∧ Rd H a (NdO b ys) ∧ RepN K W ys es ∧ Q (.int es.length) H) := by
  haveI : Lk (F.X j).w := by rw [F.w']; infer_instance
  have := call_lenN (X := F.X j)
  rw [F.K'] at this
  exact this
theorem c_len [Lk w] : CallD F (.builtin "len") fLen := by
  refine ⟨_, fun j => CallR.or (CallR.at (r := fun K xs H Q => ∃ p ys, xs = [.ref p] ∧ (SqL K H p ys ∨ SqT K H p ys) ∧ Q (.int ys.length) H) (fun X => call_len_seq) j) (CallR.or call_len_str (CallR.or call_lenR (call_lenN' j))), fun W H ms vs ds q Q hw r h c => ?_⟩
  obtain ⟨d, rfl, h⟩ := fn1_of h
  obtain ⟨v, rfl, rv⟩ := r.one
  cases d <;> first
    | exact (h : False).elim
    | skip
  · rw [rv.str]
    refine .inr (.inl ⟨_, rfl, by rw [S_len, ← SZ_eq]; exact h.1, ?_⟩)
    rw [S_len]
    exact flat_ans hw c h.2 (.int _)
  · obtain ⟨a, vs, rfl, qa, ra⟩ := rv.tup hw
    refine .inl ⟨a, vs, rfl, .inr qa, ?_⟩
    rw [ra.length]
    exact flat_ans hw c h (.int _)
  · obtain ⟨a, vs, rfl, qa, ra⟩ := rv.lst hw
    refine .inl ⟨a, vs, rfl, .inl (.of qa), ?_⟩
    rw [ra.length]
    exact flat_ans hw c h (.int _)
  · obtain ⟨a, es, rfl, qa, ra⟩ := rv.dic hw
    refine .inr (.inr (.inl ⟨a, es, rfl, qa, ?_⟩))
    rw [ra.length]
    exact flat_ans hw c h (.int _)
  · obtain ⟨a, vs, rfl, qa, ra⟩ := rv.scr hw
    refine .inl ⟨a, vs, rfl, .inl qa, ?_⟩
    rw [ra.length]
    exact flat_ans hw c h (.int _)
  · obtain ⟨a, b, xs, rfl, qa, ra⟩ := rv.dit hw
    exact .inr (.inr (.inr ⟨W, a, b, xs, _, rfl, hw, qa, ra, flat_ans hw c h (.int _)⟩))
theorem c_abs : CallD F (.builtin "abs") fAbs := by
  refine ⟨_, fun j => call_abs, fun W H ms vs ds q Q hw r h c => ?_⟩
  obtain ⟨d, rfl, h⟩ := fn1_of h
  obtain ⟨i, rfl, h⟩ := kInt_of h
  obtain ⟨v, rfl, rv⟩ := r.one
  rw [rv.int]
  exact ⟨i, rfl, flat_ans hw c h (.int _)⟩
theorem c_min2 : CallD F (.builtin "min") fMin2 := by
  refine ⟨_, fun j => call_min2 (F.calm j), fun W H ms vs ds q Q hw r h c => ?_⟩
  obtain ⟨d, e, rfl, h⟩ := fn2_of h
  obtain ⟨i, rfl, h1⟩ := kInt_of h
  obtain ⟨j, rfl, h2⟩ := kInt_of h1
  obtain ⟨v, u, rfl, r1, r2⟩ := r.two
  rw [r1.int, r2.int]
  exact ⟨i, j, rfl, flat_ans hw c h2 (.int _)⟩
theorem c_max2 : CallD F (.builtin "max") fMax2 := by
  refine ⟨_, fun j => call_max2 (F.calm j), fun W H ms vs ds q Q hw r h c => ?_⟩
  obtain ⟨d, e, rfl, h⟩ := fn2_of h
  obtain ⟨i, rfl, h1⟩ := kInt_of h
  obtain ⟨j, rfl, h2⟩ := kInt_of h1
  obtain ⟨v, u, rfl, r1, r2⟩ := r.two
  rw [r1.int, r2.int]
  exact ⟨i, j, rfl, flat_ans hw c h2 (.int _)⟩
theorem c_int : CallD F (.type "int") fInt := by
  refine ⟨_, fun j => call_int1, fun W H ms vs ds q Q hw r h c => ?_⟩
  obtain ⟨d, rfl, h⟩ := fn1_of h
  obtain ⟨v, rfl, rv⟩ := r.one
  cases d <;> first
    | exact (h : False).elim
    | skip
  · rw [rv.bl]
    exact .inr ⟨_, rfl, flat_ans hw c h (.int _)⟩
  · rw [rv.int]
    exact .inl ⟨_, rfl, flat_ans hw c h (.int _)⟩
theorem c_str : CallD F (.type "str") fStr := by
  refine ⟨_, fun j => CallR.or call_str_int SkE.call_str_str, fun W H ms vs ds q Q hw r h c => ?_⟩
  obtain ⟨d, rfl, h⟩ := fn1_of h
  obtain ⟨v, rfl, rv⟩ := r.one
  cases d <;> first
    | exact (h : False).elim
    | skip
  · rw [rv.int]
    refine .inl ⟨_, rfl, h.1, ?_⟩
    rw [str_int]
    exact flat_ans hw c h.2 (.str _)
  · rw [rv.str]
    exact .inr ⟨_, rfl, flat_ans hw c h (.str _)⟩
theorem RepK.keyV {W : Wd} : ∀ {vs : List (Key × V)} {ds : List (D × D)}, RepK K W vs ds → Reps K W (vs.map fun p => kV p.1) (ds.map (·.1))
  | _, _, .nil => .nil
  | _, _, .cons h r => .cons (rep_key W _) (RepK.keyV r)
theorem c_list : CallD F (.type "list") fList := by
  refine ⟨_, fun j => CallR.or (CallR.at (r := fun K xs H Q => ∃ p ys, xs = [.ref p] ∧ (SqL K H p ys ∨ SqT K H p ys) ∧ ∀ l, H l = none → Q (.ref l) (upd H l (.lst ys))) (fun X => call_list_of) j) (call_listD (F.calm j)), fun W H ms vs ds q Q hw r h c => ?_⟩
  obtain ⟨d, rfl, h⟩ := fn1_of h
  obtain ⟨v, rfl, rv⟩ := r.one
  cases d <;> first
    | exact (h : False).elim
    | skip
  · obtain ⟨a, vs, rfl, qa, ra⟩ := rv.tup hw
    exact .inl ⟨a, vs, rfl, .inr qa, lst_ans hw c h ra⟩
  · obtain ⟨a, vs, rfl, qa, ra⟩ := rv.lst hw
    exact .inl ⟨a, vs, rfl, .inl (.of qa), lst_ans hw c h ra⟩
  · obtain ⟨a, es, rfl, qa, ra⟩ := rv.dic hw
    exact .inr ⟨a, es, rfl, qa, lst_ans hw c h.2 ra.keyV⟩
theorem c_tuple : CallD F (.type "tuple") fTuple := by
  refine ⟨_, fun j => CallR.at (r := fun K xs H Q => ∃ p ys, xs = [.ref p] ∧ ((SqL K H p ys ∧ ∀ l, H l = none → Q (.ref l) (upd H l (.tup ys))) ∨ (SqT K H p ys ∧ Q (.ref p) H))) (fun X => call_tuple_of) j, fun W H ms vs ds q Q hw r h c => ?_⟩
  obtain ⟨d, rfl, h⟩ := fn1_of h
  obtain ⟨v, rfl, rv⟩ := r.one
  cases d <;> first
    | exact (h : False).elim
    | skip
  · have r' := rv.rep_flat rfl
    obtain ⟨a, vs, rfl, qa, ra⟩ := rv.tup hw
    exact ⟨a, vs, rfl, .inr ⟨qa, flat_ans hw c h r'⟩⟩
  · obtain ⟨a, vs, rfl, qa, ra⟩ := rv.lst hw
    exact ⟨a, vs, rfl, .inl ⟨.of qa, tup_ans hw c h ra⟩⟩
theorem c_dict : CallD F (.type "dict") fDict := by
  refine ⟨_, fun j => call_dictD, fun W H ms vs ds q Q hw r h c => ?_⟩
  obtain ⟨d, rfl, h⟩ := fn1_of h
  obtain ⟨e, rfl, h⟩ := kDic_of h
  obtain ⟨v, rfl, rv⟩ := r.one
  obtain ⟨a, es, rfl, qa, ra⟩ := rv.dic hw
  refine ⟨a, es, rfl, qa, fun p hp => ?_⟩
  obtain ⟨x, n⟩ := new_obj hw (.dk ra) hp
  exact c _ _ W _ h x n
theorem bools_of {W : Wd} : ∀ {ds : List D} {bs : List Bool} {vs : List V}, bools ds = some bs → Reps K W vs ds → vs = bs.map V.bl
  | [], _, _, h, .nil => by cases h; rfl
  | d :: ds, bs, _, h, .cons (v := v) r t => by
    cases d <;> first
      | cases h
      | skip
    rename_i b
    have h : (bools ds).map (b :: ·) = some bs := h
    cases e : bools ds with
    | none => rw [e] at h; cases h
    | some bs' =>
      rw [e] at h
      cases h
      rw [bools_of e t, View.bl (H := fun _ => none) (.rep r)]
      rfl
theorem c_all : CallD F (.builtin "all") fAll := by
  refine ⟨_, fun j => (by
    have := cr_all (X := F.X j) (F.calm j)
    rw [F.K'] at this
    exact this), fun W H ms vs ds q Q hw r h c => ?_⟩
  obtain ⟨d, rfl, h⟩ := fn1_of h
  obtain ⟨l, rfl, bs, hb, h⟩ := kLst_of h
  obtain ⟨v, rfl, rv⟩ := r.one
  obtain ⟨a, vs, rfl, qa, ra⟩ := rv.lst hw
  rw [bools_of hb ra] at qa
  exact ⟨a, bs, rfl, .of qa, flat_ans hw c h (.bl _)⟩
theorem c_any : CallD F (.builtin "any") fAny := by
  refine ⟨_, fun j => (by
    have := cr_any (X := F.X j) (F.calm j)
    rw [F.K'] at this
    exact this), fun W H ms vs ds q Q hw r h c => ?_⟩
  obtain ⟨d, rfl, h⟩ := fn1_of h
  obtain ⟨l, rfl, bs, hb, h⟩ := kLst_of h
  obtain ⟨v, rfl, rv⟩ := r.one
  obtain ⟨a, vs, rfl, qa, ra⟩ := rv.lst hw
  rw [bools_of hb ra] at qa
  exact ⟨a, bs, rfl, .of qa, flat_ans hw c h (.bl _)⟩

/-! ### isinstance -/
def Ty.name : Ty → String
  | .int => "int"
  | .str => "str"
  | .bool => "bool"
  | .list => "list"
  | .tuple => "tuple"
  | .dict => "dict"
/-- the name of a tree's type -/
def D.tyn : D → String
  | .non => "NoneType"
  | .bl _ => "bool"
  | .int _ => "int"
  | .str _ => "str"
  | .tup _ => "tuple"
  | .lst _ => "list"
  | .dic _ => "dict"
  | .dit _ => "dict"
  | _ => ""
def D.isDit : D → Bool
  | .dit _ => true
  | _ => false
theorem View.ty {W : Wd} {H : Hp} (hw : Holds W H) {v : V} {d : D} (h : View K W H v d) (hd : d.dat = true) (hn : d.isDit = false) : TyX K H v (.type d.tyn) := by
  cases d with
  | non => rw [h.non]; exact .base .non
  | bl b => rw [h.bl]; exact .base (.bl b)
  | int i => rw [h.int]; exact .base (.int i)
  | str s => rw [h.str]; exact .base (.str _)
  | tup ds =>
    obtain ⟨a, vs, rfl, q, _⟩ := h.tup hw
    rcases q with (q | ⟨o, q⟩) | ⟨o, its, n, q, c, _⟩
    · exact .base (.tup q)
    · exact .fTuple q
    · exact .kTuple q c
  | lst ds =>
    obtain ⟨a, vs, rfl, q, _⟩ := h.lst hw
    exact .base (.lst q)
  | dic es =>
    obtain ⟨a, es, rfl, q, _⟩ := h.dic hw
    rcases q with q | ⟨o, q⟩
    · exact .base (.dK q)
    · exact .fDict q
  | tok => cases hd
  | scr _ => cases hd
  | dit _ => cases hn
/-- isinstance of a dict with tuple keys -/
def rIsiN (K : PySem.W.Frag) : List V → Hp → VK → Prop := fun xs H Q => ∃ (a b : Addr) (ys : List NE) (c : V) (u : Value) (r : Bool), xs = [.ref a, c] ∧ ClsV c u ∧ Rd H a (NdO b ys) ∧ PySem.W.kitOne K (.type "dict") u = some r ∧ Q (.bl r) H
theorem call_isiN {X : Cx} : CallR X (.builtin "isinstance") (rIsiN X.K) := by
  intro pins s σ H xs us Q I r h
  obtain ⟨a, b, ys, c, u, rr, rfl, k, hd, e, q⟩ := h
  obtain ⟨u1, u2, rfl, r1, r2⟩ := vals2 r
  have e2 := k.eq r2
  subst e2
  cases (show u1 = Value.ref a from r1)
  obtain ⟨_, _, _, zs, _, o, es, ep, h1, h2, _⟩ := nd_addr (hd.ok I.hok)
  exact PySem.W.kia_one PySem.W.kitx_dict I.kIn ⟨o, h1, h2.1⟩ e (fun z => nomatch z) fun tk => ⟨.bl rr, H, I.tok tk, rfl, q⟩
theorem kit_all : ∀ (a : String) (t : Ty), a ∈ ["NoneType", "bool", "int", "str", "tuple", "list", "dict"] → kitB a t.name = some (a == t.name || (a == "bool" && t.name == "int")) := by
  intro a t h
  simp only [List.mem_cons, List.not_mem_nil, or_false] at h
  rcases h with rfl | rfl | rfl | rfl | rfl | rfl | rfl <;> cases t <;> decide +kernel
theorem kit_D {d : D} (t : Ty) (hd : d.dat = true) : kitB d.tyn t.name = some (d.isTy t) := by
  cases d <;> cases t <;> first | exact (Bool.false_ne_true hd).elim | exact kit_all _ _ (by simp [D.tyn])
theorem ef_isI {a : Expr} {wa : WE} {p pos p2 : Pos} {x : Str} (t : Ty) (ha : EV F a wa) (hm : mg "isinstance" = none) (hm2 : mg x = none) (hv : bootBuiltins x = some (.type t.name)) (hg : GlS sc "isinstance" := by rfl) (hg2 : GlS sc x := by rfl)
    (hn : x ≠ "__name__" := by decide) (hdb : (x == ("__debug__" : Str)) = false := by decide)
    (hs : ∀ j : F.ι, starEach [a, .Name x p2] (F.X j).env = (false, eval a (F.X j).env) :: starEach [.Name x p2] (F.X j).env := by intro _; rfl)
    (hs2 : ∀ j : F.ι, starEach [.Name x p2] (F.X j).env = (false, eval (.Name x p2) (F.X j).env) :: starEach [] (F.X j).env := by intro _; rfl)
    (hpl : ∀ j : F.ι, (backTo pos (starEach [.Name x p2] (F.X j).env)).any (·.1) = false := by intro _; rfl) : EF F (.Call (.Name "isinstance" p) [a, .Name x p2] [] pos) (wIsI t wa) := by
  obtain ⟨ta, a1, a2⟩ := ha
  refine ⟨tCB (fun xs H Q => rIsi K xs H Q ∨ rIsiN K xs H Q) (tCons ta (tCons (tC (.ty t.name)) tNil)), fun j => pe_callB (CallR.or (CallR.at (r := fun K xs H Q => rIsi K xs H Q) (fun X => call_isi) j) (CallR.at (r := fun K xs H Q => rIsiN K xs H Q) (fun X => call_isiN) j)) (gl_of hg j) (by rw [F.mg']; exact hm) bt_isinstance
    (pa_cons (a1 j) (pa_cons (pe_bltn (gl_of hg2 j) (by rw [F.mg']; exact hm2) hv rfl hn hdb) pa_nil (hs2 j)) (hs j)) (by decide) (by decide) (hs j) (hpl j), fun C Γ σ W H q Q s hw c => ?_⟩
  refine a2 C Γ σ W H _ _ s hw fun v d W' H' hq x r => ?_
  cases hn : d.isDit with
  | false => exact .inl ⟨v, .ty t.name, .type d.tyn, .type t.name, d.isTy t, rfl, .ty _, r.ty x.holds hq.1 hn, kit_ty (kit_D t hq.1), c _ _ W' H' hq.2 x (.inl ⟨rfl, .bl _⟩)⟩
  | true =>
    cases d <;> first | (cases hn; done) | skip
    obtain ⟨a, b, xs, rfl, qa, ra⟩ := r.dit x.holds
    exact .inr ⟨a, b, xs, .ty t.name, .type t.name, _, rfl, .ty _, qa, kit_ty (kit_D t hq.1), c _ _ W' H' hq.2 x (.inl ⟨rfl, .bl _⟩)⟩

/-! ### subscripts -/
theorem ix_dict {X : Cx} (hu : X.A.units + 1 < cLine) : IxR X (fun x y H Q => ∃ a v, x = .ref a ∧ DGet H a y (some v) ∧ Q v H) := by
  intro value slice pins s σ H x y v u Q I rx ry h hs
  obtain ⟨a, z, rfl, g, q⟩ := h
  cases rx
  have hT := dict_typeIs I g
  unfold subscriptTail
  refine wpAny_bind ?_
  rw [getitemInPython_of_ne hT.not_modules]
  refine wpAny_bind (wpAny_specialOf hT PySem.F.slot_dict_getitem.lookup ?_)
  have fin : wpAny (model X.prog X.w) X.A (subscripted slice false (.ref a) u) (fun r s₃ => wpAny (model X.prog X.w) X.A (letTemporaryGo value (.ref a) r >>= fun _ => pure r) (EP X pins σ Q) X.xe s₃) X.xe s := by
    rw [hs]
    exact wpAny_operating (d_getItem hu I g ry fun w' s' I' r' => wpAny_bind (wpAny_letTemporaryGo (wpAny_pure ⟨z, H, I', r', q⟩)))
  first
    | exact wpAny_pure (wpAny_bind fin)
    | exact wpAny_bind (wpAny_pure (wpAny_bind fin))
    | exact wpAny_bind fin
theorem at_get {W : Wd} {vs : List V} {ds : List D} {i : Int} {d : D} (r : Reps K W vs ds) (h : atD ds i = some d) : ∃ v, atI vs i = some v ∧ Rep K W v d := by
  unfold atD at h
  cases e : ixN ds.length i with
  | none => rw [e] at h; cases h
  | some j =>
    rw [e] at h
    obtain ⟨v, h1, h2⟩ := r.get h
    refine ⟨v, ?_, h2⟩
    show (L2.ixN vs.length i).bind _ = _
    rw [r.length, ixN_eq, e]
    exact h1
/-- an item, by what stands for good -/
theorem IxR.at {r : PySem.W.Frag → R2} (h : ∀ X : Cx, IxR X (r X.K)) (j : F.ι) : IxR (F.X j) (r K) := by
  have := h (F.X j)
  rw [F.K'] at this
  exact this
theorem ex_ix [Lk w] {a b : Expr} {wa wb : WE} {pos : Pos} (ha : EV F a wa) (hb : EV F b wb) (hs : PlainIx b := by intro _ _; rfl) : EX F (.Subscript a b pos) (wOp oIx wa wb) := by
  obtain ⟨ta, a1, a2⟩ := ha
  obtain ⟨tb, b1, b2⟩ := hb
  refine ⟨_, fun j => pe_ix (IxR.or (IxR.at (r := fun K => rIx K) (fun X => ix_seq) j) (IxR.or (ix_dict (hu1 (F.room j))) (ix_nest' j))) (a1 j) (b1 j) hs, fun C Γ σ W H q Q s hw c => ?_⟩
  refine a2 C Γ σ W H _ _ s hw fun x dx W1 H1 hq1 x1 r1 => ?_
  refine b2 C Γ σ W1 H1 _ _ (s.ext x1) hq1 fun y dy W2 H2 hq2 x2 r2 => ?_
  have x12 := x1.trans s.holds x2
  have r1 := r1.ext x2
  cases dx <;> first
    | exact (hq2 : False).elim
    | skip
  · obtain ⟨i, rfl, h1, cc, h2, h3⟩ := kInt_of hq2
    rw [r1.str, r2.int]
    exact .inl (.inr (.inr ⟨_, i, cc, rfl, rfl, by rw [S_len, ← SZ_eq]; exact h1, h2, c _ _ W2 H2 h3 x12 (.str _)⟩))
  · obtain ⟨i, rfl, d, h2, h3⟩ := kInt_of hq2
    obtain ⟨p, vs, rfl, qa, ra⟩ := r1.tup x12.holds
    rw [r2.int]
    obtain ⟨v, e, rv⟩ := at_get ra h2
    exact .inl (.inr (.inl ⟨p, vs, i, v, rfl, rfl, qa, e, c _ _ W2 H2 h3 x12 rv⟩))
  · obtain ⟨i, rfl, d, h2, h3⟩ := kInt_of hq2
    obtain ⟨p, vs, rfl, qa, ra⟩ := r1.lst x12.holds
    rw [r2.int]
    obtain ⟨v, e, rv⟩ := at_get ra h2
    exact .inl (.inl ⟨p, vs, i, v, rfl, rfl, .of qa, e, c _ _ W2 H2 h3 x12 rv⟩)
  · obtain ⟨h1, d, h2, h3⟩ := hq2
    obtain ⟨p, es, rfl, qa, ra⟩ := r1.dic x12.holds
    obtain ⟨kk, rfl, e⟩ := key_of (r2.rep_flat (by cases dy <;> first | rfl | exact (Bool.false_ne_true h1).elim)) h1
    subst e
    obtain ⟨v, e, rv⟩ := (ra.look kk).1 d h2
    exact .inr (.inl ⟨p, v, rfl, .inl ⟨es, kk, qa, rfl, e.symm⟩, c _ _ W2 H2 h3 x12 rv⟩)
  · obtain ⟨i, rfl, d, h2, h3⟩ := kInt_of hq2
    obtain ⟨p, vs, rfl, qa, ra⟩ := r1.scr x12.holds
    rw [r2.int]
    obtain ⟨v, e, rv⟩ := at_get ra h2
    exact .inl (.inl ⟨p, vs, i, v, rfl, rfl, qa, e, c _ _ W2 H2 h3 x12 rv⟩)
  · obtain ⟨h1, d, h2, h3⟩ := hq2
    obtain ⟨p, b', xs, rfl, qa, ra⟩ := r1.dit x12.holds
    exact .inr (.inr ⟨W2, p, b', xs, _, dy, d, rfl, x12.holds, qa, ra, r2.rep_flat (by cases dy <;> first | rfl | exact (Bool.false_ne_true h1).elim), h1, h2, fun v rv => c _ _ W2 H2 h3 x12 rv⟩)
/-- a slice's part -/
def EO (F : Fam P w K mg base N sc k) (e : Option Expr) (wo : WO) : Prop := ∃ t : TO, (∀ i, PO (F.X i) e t) ∧ ∀ C Γ σ W H (q : Option Int → Prop) (Q : Option Int → Hp → Prop), Sta K C Γ σ W H → wo Γ q →
  (∀ o W' H', q o → Ext W H W' H' → Q o H') → t σ H Q
theorem eo_n : EO F none woN := ⟨_, fun _ => po_none, fun C Γ σ W H q Q s hw c => c none W H hw (.refl s.holds)⟩
theorem eo_s {a : Expr} {wa : WE} (ha : EV F a wa) : EO F (some a) (woS wa) := by
  obtain ⟨ta, a1, a2⟩ := ha
  refine ⟨_, fun j => po_some (a1 j), fun C Γ σ W H q Q s hw c => ?_⟩
  refine a2 C Γ σ W H _ _ s hw fun v d W' H' hq x r => ?_
  obtain ⟨i, rfl, h⟩ := kInt_of hq
  exact ⟨i, r.int, c _ W' H' h x⟩
theorem SlR.at {r : PySem.W.Frag → V → Option Int → Option Int → Hp → VK → Prop} (h : ∀ X : Cx, SlR X (r X.K)) (j : F.ι) : SlR (F.X j) (r K) := by
  have := h (F.X j)
  rw [F.K'] at this
  exact this
theorem Reps.cut {W : Wd} {vs : List V} {ds : List D} (r : Reps K W vs ds) (l h : Option Int) : Reps K W (cutV vs l h) (cutD ds l h) := by
  rw [cutV_eq]
  unfold cutD
  rw [r.length]
  exact (r.drop _).take _
theorem ef_slice {a : Expr} {lo hi : Option Expr} {wa : WE} {wl wh : WO} {pos p2 : Pos} (ha : EV F a wa) (hl : EO F lo wl) (hh : EO F hi wh) : EF F (.Subscript a (.Slice lo hi none p2) pos) (wSlice wa wl wh) := by
  obtain ⟨ta, a1, a2⟩ := ha
  obtain ⟨tl, l1, l2⟩ := hl
  obtain ⟨th, h1, h2⟩ := hh
  refine ⟨_, fun j => pe_slice (SlR.or (SlR.at (r := fun K => rSlL K) (fun X => sl_list) j) (SlR.or (SlR.at (r := fun K => rSlA K) (fun X => sl_tupA) j) sl_str)) (a1 j) (l1 j) (h1 j), fun C Γ σ W H q Q s hw c => ?_⟩
  refine a2 C Γ σ W H _ _ s hw fun x dx W1 H1 hq1 x1 r1 => ?_
  refine l2 C Γ σ W1 H1 _ _ (s.ext x1) hq1 fun l W2 H2 hq2 x2 => ?_
  have x12 := x1.trans s.holds x2
  refine h2 C Γ σ W2 H2 _ _ (s.ext x12) hq2 fun h W3 H3 hq3 x3 => ?_
  have x13 := x12.trans s.holds x3
  have r1 := (r1.ext x2).ext x3
  have c' : ∀ v d W' H', q d → Ext W3 H3 W' H' → New K W3 H3 W' H' v d → Q v H' := fun v d W' H' hq x n => c v d W' H' hq (x13.trans s.holds x) (n.ext s.holds x13)
  cases dx <;> first
    | exact (hq3 : False).elim
    | skip
  · rw [r1.str]
    refine .inr (.inr ⟨_, rfl, by rw [S_len, ← SZ_eq]; exact hq3.1, ?_⟩)
    rw [cut_S]
    exact c _ _ W3 H3 hq3.2 x13 (.inl ⟨rfl, .str _⟩)
  · have r' := r1.rep_flat rfl
    obtain ⟨p, vs, rfl, qa, ra⟩ := r1.tup x13.holds
    refine .inr (.inl ⟨p, vs, rfl, qa, fun hz => ?_, fun _ => tup_ans x13.holds c' hq3 (ra.cut l h)⟩)
    have e1 : HT.sIx = ixB := by
      funext n d o
      cases o <;> rfl
    rw [e1, ra.length] at hz
    have e2 : ∀ ds : List D, ixB ds.length 0 l = 0 → ixB ds.length ds.length h = ds.length → cutD ds l h = ds := fun ds h1 h2 => by
      unfold cutD
      rw [h1, h2]
      simp
    have hq3 : q (.tup (cutD _ l h)) := hq3
    rw [e2 _ hz.1 hz.2] at hq3
    exact c _ _ W3 H3 hq3 x13 (.inl ⟨rfl, r'⟩)
  · obtain ⟨p, vs, rfl, qa, ra⟩ := r1.lst x13.holds
    exact .inl ⟨p, vs, rfl, .of qa, lst_ans x13.holds c' hq3 (ra.cut l h)⟩

/-! ### methods of texts -/
/-- a text's method over trees -/
def MtD (F : Fam P w K mg base N sc k) (id : String) (m : Mt) : Prop := ∃ r : V → List V → Hp → VK → Prop, (∀ j, MtR (F.X j) id r) ∧ ∀ W H s ms vs ds (q : D → Prop) (Q : VK), Holds W H → AR K W H ms vs ds → m s ds q →
  (∀ v d W' H', q d → Ext W H W' H' → New K W H W' H' v d → Q v H') → r (.str (S s)) vs H Q
def MtD0 (F : Fam P w K mg base N sc k) (id : String) (m : Mt0) : Prop := ∃ r : V → List V → Hp → VK → Prop, (∀ j, MtR (F.X j) id r) ∧ ∀ W H s (q : D → Prop) (Q : VK), Holds W H → m s q →
  (∀ v d W' H', q d → Ext W H W' H' → New K W H W' H' v d → Q v H') → r (.str (S s)) [] H Q
section
variable {o e : Expr} {es : List Expr} {name : Str} {apos cpos : Pos} {id : String} {m : Mt} {m0 : Mt0} {wo : WE} {wa : WA} {ms : List Bool}
theorem ef_mt (slot : Slot "str" name id) (hty : typeOf (.builtin id) = pure (.type "method_descriptor")) (hm : MtD F id m) (ho : EV F o wo) (ha : EA F ms (e :: es) wa)
    (hbase : ∀ j : F.ι, attributeBase o name (F.X j).env (eval o (F.X j).env) = eval o (F.X j).env := by intro _; rfl)
    (hfew : ∀ j : F.ι, ((backTo cpos (starEach (e :: es) (F.X j).env)).all (fun x => !x.1) && (backToKw cpos (keywordEach [] (F.X j).env)).all (fun x => x.1.isSome)
      && decide ((e :: es).length + ([] : List Keyword).length + (if ([] : List Keyword).isEmpty then 0 else 1) < 30)) = true := by intro _; rfl) (hline : (apos.endLine == cpos.line) = true := by rfl)
    (hs : ∀ j : F.ι, starEach (e :: es) (F.X j).env = (false, eval e (F.X j).env) :: starEach es (F.X j).env := by intro _; rfl) (hpl : ∀ j : F.ι, (backTo cpos (starEach es (F.X j).env)).any (·.1) = false := by intro _; rfl) :
    EF F (.Call (.Attribute o name apos) (e :: es) [] cpos) (wMt m wo wa) := by
  obtain ⟨to, o1, o2⟩ := ho
  obtain ⟨ta, a1, a2⟩ := ha
  obtain ⟨r, h1, h2⟩ := hm
  refine ⟨tBM K "str" r to ta, fun j => (by
    have := pe_bm (T := "str") PySem.F.plainAttrs_str slot hty (h1 j) (o1 j) (a1 j) (hbase j) (hfew j) hline (hs j) (hpl j)
    rw [F.K'] at this
    exact this), fun C Γ σ W H q Q s hw c => ?_⟩
  refine o2 C Γ σ W H _ _ s hw fun x dx W1 H1 hq1 x1 r1 => ?_
  obtain ⟨z, rfl, hq1⟩ := kStr_of hq1
  rw [r1.str]
  refine ⟨rfl, a2 C Γ σ W1 H1 _ _ (s.ext x1) hq1 fun vs ds W2 H2 hq2 x2 r2 => ?_⟩
  have x12 := x1.trans s.holds x2
  exact h2 W2 H2 z ms vs ds q Q x12.holds r2 hq2 fun v d W' H' hq x n => c v d W' H' hq (x12.trans s.holds x) (n.ext s.holds x12)
theorem ef_mt0 (slot : Slot "str" name id) (hty : typeOf (.builtin id) = pure (.type "method_descriptor")) (hm : MtD0 F id m0) (ho : EV F o wo)
    (hbase : ∀ j : F.ι, attributeBase o name (F.X j).env (eval o (F.X j).env) = eval o (F.X j).env := by intro _; rfl) (hline : (apos.endLine == cpos.line) = true := by rfl) :
    EF F (.Call (.Attribute o name apos) [] [] cpos) (wMt0 m0 wo) := by
  obtain ⟨to, o1, o2⟩ := ho
  obtain ⟨r, h1, h2⟩ := hm
  refine ⟨tBM0 K "str" r to, fun j => (by
    have := pe_bm0 (T := "str") PySem.F.plainAttrs_str slot hty (h1 j) (o1 j) (hbase j) hline
    rw [F.K'] at this
    exact this), fun C Γ σ W H q Q s hw c => ?_⟩
  refine o2 C Γ σ W H _ _ s hw fun x dx W1 H1 hq1 x1 r1 => ?_
  obtain ⟨z, rfl, hq1⟩ := kStr_of hq1
  rw [r1.str]
  exact ⟨rfl, h2 W1 H1 z q Q x1.holds hq1 fun v d W' H' hq x n => c v d W' H' hq (x1.trans s.holds x) (n.ext s.holds x1)⟩
end
theorem mt1_of {f : List Nat → List Nat → (D → Prop) → Prop} {s : List Nat} {ds : List D} {q : D → Prop} (h : mt1 f s ds q) : ∃ t, ds = [.str t] ∧ f s t q := by
  match ds, h with
  | [.str t], h => exact ⟨t, rfl, h⟩
theorem m_count : MtD F "str.count" mCount := by
  refine ⟨_, fun j => mt_count, fun W H s ms vs ds q Q hw r h c => ?_⟩
  obtain ⟨t, rfl, cc, rfl, h3⟩ := mt1_of h
  obtain ⟨v, rfl, rv⟩ := r.one
  rw [rv.str]
  refine ⟨_, _, rfl, rfl, ?_⟩
  rw [count_S]
  exact flat_ans hw c h3 (.int _)
theorem m_find : MtD F "str.find" mFind := by
  refine ⟨_, fun j => mt_find, fun W H s ms vs ds q Q hw r h c => ?_⟩
  obtain ⟨t, rfl, cc, rfl, h3⟩ := mt1_of h
  obtain ⟨v, rfl, rv⟩ := r.one
  rw [rv.str]
  refine ⟨_, _, rfl, rfl, ?_⟩
  rw [find_S]
  exact flat_ans hw c h3 (.int _)
theorem m_rfind : MtD F "str.rfind" mRfind := by
  refine ⟨_, fun j => mt_rfind, fun W H s ms vs ds q Q hw r h c => ?_⟩
  obtain ⟨t, rfl, cc, rfl, h3⟩ := mt1_of h
  obtain ⟨v, rfl, rv⟩ := r.one
  rw [rv.str]
  refine ⟨_, _, rfl, rfl, ?_⟩
  rw [rfind_S]
  exact flat_ans hw c h3 (.int _)
theorem m_startswith : MtD F "str.startswith" mStarts := by
  refine ⟨_, fun j => mt_startswith, fun W H s ms vs ds q Q hw r h c => ?_⟩
  obtain ⟨t, rfl, h⟩ := mt1_of h
  obtain ⟨v, rfl, rv⟩ := r.one
  rw [rv.str]
  refine ⟨_, _, rfl, rfl, ?_⟩
  rw [starts_S]
  exact flat_ans hw c h (.bl _)
theorem m_endswith : MtD F "str.endswith" mEnds := by
  refine ⟨_, fun j => mt_endswith, fun W H s ms vs ds q Q hw r h c => ?_⟩
  obtain ⟨t, rfl, h⟩ := mt1_of h
  obtain ⟨v, rfl, rv⟩ := r.one
  rw [rv.str]
  refine ⟨_, _, rfl, rfl, ?_⟩
  rw [ends_S]
  exact flat_ans hw c h (.bl _)
theorem m_split : MtD F "str.split" mSplit := by
  refine ⟨_, fun j => mt_split, fun W H s ms vs ds q Q hw r h c => ?_⟩
  obtain ⟨t, rfl, cc, rfl, ⟨h1, h2⟩, h⟩ := mt1_of h
  obtain ⟨v, rfl, rv⟩ := r.one
  rw [rv.str]
  refine ⟨_, _, rfl, rfl, rfl, by rw [S_len, ← SZ_eq]; exact h2, ?_⟩
  rw [split_C s cc h1]
  have e : ((splitC cc s).map S).map V.str = (splitC cc s).map fun z => V.str (S z) := by rw [List.map_map]; rfl
  unfold rNewStrs
  rw [e]
  exact lst_ans hw c h (Reps.strs _)
theorem strsD_of {W : Wd} : ∀ {ds : List D} {ws : List (List Nat)} {vs : List V}, strsD ds = some ws → Reps K W vs ds → vs = (ws.map S).map V.str
  | [], _, _, h, .nil => by cases h; rfl
  | d :: ds, ws, _, h, .cons (v := v) r t => by
    cases d <;> first
      | cases h
      | skip
    rename_i b
    have h : (strsD ds).map (b :: ·) = some ws := h
    cases e : strsD ds with
    | none => rw [e] at h; cases h
    | some ws' =>
      rw [e] at h
      cases h
      rw [strsD_of e t, View.str (H := fun _ => none) (.rep r)]
      rfl
theorem lens_S (ws : List (List Nat)) : (ws.map S).map (·.length) = ws.map (·.length) := by
  rw [List.map_map]
  exact List.map_congr_left fun s _ => S_len s
theorem join_S' (s : List Nat) (ws : List (List Nat)) : Txt.join (S s) (ws.map S) = S (joinD s ws) := by
  rw [← join_C]
  exact SX.join_S s ws
theorem m_join : MtD F "str.join" mJoin := by
  refine ⟨_, fun j => (by
    have := mt_join (X := F.X j)
    rw [F.K'] at this
    exact this), fun W H s ms vs ds q Q hw r h c => ?_⟩
  match ds, h with
  | [.lst ys], ⟨ws, e, hz, h⟩ =>
    obtain ⟨v, rfl, rv⟩ := r.one
    obtain ⟨a, vs, rfl, qa, ra⟩ := rv.lst hw
    rw [strsD_of e ra] at qa
    refine ⟨S s, a, ws.map S, rfl, rfl, .inl (.of qa), by rw [lens_S, List.length_map, S_len]; exact hz, ?_⟩
    rw [join_S']
    exact flat_ans hw c h (.str _)
  | [.tup ys], ⟨ws, e, hz, h⟩ =>
    obtain ⟨v, rfl, rv⟩ := r.one
    obtain ⟨a, vs, rfl, qa, ra⟩ := rv.tup hw
    rw [strsD_of e ra] at qa
    refine ⟨S s, a, ws.map S, rfl, rfl, .inr qa, by rw [lens_S, List.length_map, S_len]; exact hz, ?_⟩
    rw [join_S']
    exact flat_ans hw c h (.str _)
theorem m_isupper : MtD0 F "str.isupper" mIsupper := by
  refine ⟨_, fun j => mt_isupper, fun W H s q Q hw h c => ⟨_, rfl, rfl, trivial, ?_⟩⟩
  rw [isupper_S h.1]
  exact flat_ans hw c h.2 (.bl _)
theorem m_isalnum : MtD0 F "str.isalnum" mIsalnum := by
  refine ⟨_, fun j => mt_isalnum, fun W H s q Q hw h c => ⟨_, rfl, rfl, trivial, ?_⟩⟩
  rw [isalnum_S h.1]
  exact flat_ans hw c h.2 (.bl _)
theorem m_isalpha : MtD0 F "str.isalpha" mIsalpha := by
  refine ⟨_, fun j => mt_isalpha, fun W H s q Q hw h c => ⟨_, rfl, rfl, trivial, ?_⟩⟩
  rw [isalpha_S h.1]
  exact flat_ans hw c h.2 (.bl _)
theorem m_isdigit : MtD0 F "str.isdigit" mIsdigit := by
  refine ⟨_, fun j => mt_isdigit, fun W H s q Q hw h c => ⟨_, rfl, rfl, trivial, ?_⟩⟩
  rw [isdigit_S h.1]
  exact flat_ans hw c h.2 (.bl _)
theorem m_lower : MtD0 F "str.lower" mLower := by
  refine ⟨_, fun j => mt_lower, fun W H s q Q hw h c => ⟨_, rfl, rfl, by rw [S_len]; exact h.1.2, ?_⟩⟩
  rw [lower_C h.1.1]
  exact flat_ans hw c h.2 (.str _)
end
end DL

/-! DIter: what is walked, comprehensions, over trees. -/
namespace DL
open PySem PySem.Spec PyProof.Rows L2
variable [WW]

/-- a list, a tuple or a text is walked -/
theorem pi_any {X : Cx} {tg e : Expr} {te : TE} (he : PE X e te) : PI X tg e (fun σ H R => te σ H fun x H1 => (∃ a, x = .ref a ∧ (∃ xs, SqL X.K H1 a xs) ∧ R (Itl X.K a) H1) ∨ (∃ a, x = .ref a ∧ (∃ xs, SqT X.K H1 a xs) ∧ R (Itt X.K a) H1) ∨ ∃ x', x = .str x' ∧ R (Its x') H1) := by
  refine ⟨fun pins s σ H R I h => ?_⟩
  refine thn (he.run pins s σ H _ I h) fun v s1 ⟨y, H1, I1, r1, h1⟩ => ?_
  rcases h1 with ⟨a, e, ⟨xs, hq⟩, q⟩ | ⟨a, e, ⟨xs, hq⟩, q⟩ | ⟨x, ex, q⟩
  · subst e
    cases r1
    obtain ⟨its, rv, p, hz⟩ := I1.list hq
    refine wpAny_pyIter_list p.isList ?_
    exact pi_one (tk := s1.toks) I1 _ (turn_list a _) ⟨_, Heap.get?_push_size _ rfl, rfl, rfl⟩ q
  · subst e
    cases r1
    obtain ⟨its, rv, p, hz⟩ := I1.tuple hq
    refine wpAny_pyIter_tuple (show s1.heap.IsTuple a its.toArray from p) ?_
    exact pi_one (tk := s1.toks) I1 _ (turn_tuple a _) ⟨_, Heap.get?_push_size _ rfl, rfl, rfl⟩ q
  · subst ex
    obtain ⟨t, rfl⟩ := r1
    cases ha : x.cps.all (· < 128)
    · exact wpAny_pyIter_wide ha (pi_one (tk := s1.toks) I1 _ (turn_str _ x t "str_iterator" (.inr rfl)) ⟨_, Heap.get?_push_size _ rfl, rfl, rfl⟩ q)
    · exact wpAny_pyIter_ascii ha (pi_one (tk := s1.toks) I1 _ (turn_str _ x t "str_ascii_iterator" (.inl rfl)) ⟨_, Heap.get?_push_size _ rfl, rfl, rfl⟩ q)

/-- J yields the trees ds, while G -/
structure Wlk (K : PySem.W.Frag) (J : It) (ds : List D) (G : Wd → Hp → Prop) : Prop where
  go : ∀ i W H, G W H → Holds W H → i < ds.length → J.go i H
  stop : ∀ W H, G W H → Holds W H → J.stop ds.length H
  yld : ∀ i d W H x H', ds[i]? = some d → G W H → Holds W H → J.yld i H x H' → ∃ W', Ext W H W' H' ∧ Rep K W' x d

section
variable {P : Program} {w : World} {K : PySem.W.Frag} {mg : Str → Option Value} {base : Heap} {N : List Str} {sc : Scope} {k : Nat}
variable {F : Fam P w K mg base N sc k} {C : Ctx}

theorem wlk_list {a : Addr} {ds : List D} : Wlk K (Itl K a) ds (fun W H => ∃ vs, H a = some (.lst vs) ∧ Reps K W vs ds) where
  go := fun i W H ⟨vs, e, r⟩ hw hi => by
    obtain ⟨v, h1, _⟩ := r.get (List.getElem?_eq_getElem hi)
    exact ⟨vs, v, .of e, h1⟩
  stop := fun W H ⟨vs, e, r⟩ hw => ⟨vs, .of e, Nat.le_of_eq r.length⟩
  yld := fun i d W H x H' hi ⟨vs, e, r⟩ hw ⟨e1, y⟩ => by
    subst e1
    obtain ⟨v, h1, h2⟩ := r.get hi
    have e2 := y vs (.of e)
    rw [h1] at e2
    cases e2
    exact ⟨W, .refl hw, h2⟩
theorem wlk_scr {a : Addr} {ds : List D} : Wlk K (Itl K a) ds (fun W H => ∃ vs, SqL K H a vs ∧ Reps K W vs ds) where
  go := fun i W H ⟨vs, e, r⟩ hw hi => by
    obtain ⟨v, h1, _⟩ := r.get (List.getElem?_eq_getElem hi)
    exact ⟨vs, v, e, h1⟩
  stop := fun W H ⟨vs, e, r⟩ hw => ⟨vs, e, Nat.le_of_eq r.length⟩
  yld := fun i d W H x H' hi ⟨vs, e, r⟩ hw ⟨e1, y⟩ => by
    subst e1
    obtain ⟨v, h1, h2⟩ := r.get hi
    have e2 := y vs e
    rw [h1] at e2
    cases e2
    exact ⟨W, .refl hw, h2⟩
theorem wlk_tup {a : Addr} {ds : List D} : Wlk K (Itt K a) ds (fun W H => ∃ vs, SqT K H a vs ∧ Reps K W vs ds) where
  go := fun i W H ⟨vs, e, r⟩ hw hi => by
    obtain ⟨v, h1, _⟩ := r.get (List.getElem?_eq_getElem hi)
    exact ⟨vs, v, e, h1⟩
  stop := fun W H ⟨vs, e, r⟩ hw => ⟨vs, e, Nat.le_of_eq r.length⟩
  yld := fun i d W H x H' hi ⟨vs, e, r⟩ hw ⟨e1, y⟩ => by
    subst e1
    obtain ⟨v, h1, h2⟩ := r.get hi
    have e2 := y vs e
    rw [h1] at e2
    cases e2
    exact ⟨W, .refl hw, h2⟩
theorem wlk_str {s : List Nat} : Wlk K (Its (S s)) (s.map fun c => .str [c]) (fun _ _ => True) where
  go := fun i W H _ hw hi => by
    rw [List.length_map] at hi
    show i < (S s).cps.size
    simpa [S] using hi
  stop := fun W H _ hw => by
    show (S s).cps.size ≤ _
    simp [S]
  yld := fun i d W H x H' hi _ hw ⟨e1, c, hc, e2⟩ => by
    subst e1 e2
    have hc : s[i]? = some c := by simpa [S] using hc
    rw [List.getElem?_map, hc] at hi
    cases hi
    exact ⟨W, .refl hw, .str [c]⟩
theorem wlk_range {lo : Int} {n : Nat} : Wlk K (Itr lo n) ((List.range n).map fun i => .int (lo + (i : Nat))) (fun _ _ => True) where
  go := fun i W H _ hw hi => by
    show i < n
    simpa using hi
  stop := fun W H _ hw => by
    show n ≤ _
    simp
  yld := fun i d W H x H' hi _ hw ⟨e1, e2⟩ => by
    subst e1 e2
    rw [List.getElem?_map] at hi
    cases h : (List.range n)[i]? with
    | none => rw [h] at hi; cases hi
    | some j =>
      rw [h] at hi
      cases hi
      have hj : i = j := by
        have := (List.getElem?_eq_some_iff.mp h)
        obtain ⟨h1, h2⟩ := this
        simpa using h2
      subst hj
      exact ⟨W, .refl hw, .int _⟩

/-- what is walked, as trees; keep: what the turns leave of the def's names -/
def EI (F : Fam P w K mg base N sc k) (keep : Gam → Gam → Prop) (tg e : Expr) (wi : WI) : Prop := ∃ ti : TI, (∀ j, PI (F.X j) tg e ti) ∧ ∀ C Γ σ W H (q : List D → Prop) (R : It → Hp → Prop), Sta K C Γ σ W H → wi Γ q →
  (∀ J ds W1 H1 (G : Wd → Hp → Prop), q ds → Ext W H W1 H1 → Wlk K J ds G → (∀ Γ' σ' W' H', W1.Le W' → Sta K C Γ' σ' W' H' → keep Γ Γ' → G W' H') → R J H1) → ti σ H R
def keep0 : Gam → Gam → Prop := fun _ _ => True
def keepAt (i : Nat) : Gam → Gam → Prop := fun Γ Γ' => Γ'[i]? = Γ[i]?

/-- over a list, a tuple, a text that stands for good -/
theorem ei_items {tg a : Expr} {wa : WE} (ha : EX F a wa) : EI F keep0 tg a (wItems wa) := by
  obtain ⟨ta, a1, a2⟩ := ha
  refine ⟨_, fun j => (by
    have := pi_any (tg := tg) (a1 j)
    rw [F.K'] at this
    exact this), fun C Γ σ W H q R s hw c => ?_⟩
  refine a2 C Γ σ W H _ _ s hw fun v d W1 H1 hq x r => ?_
  have hw1 := x.holds
  cases d <;> first
    | exact (hq : False).elim
    | skip
  · rename_i z
    cases r
    exact .inr (.inr ⟨_, rfl, c _ _ W1 H1 _ hq x wlk_str fun _ _ _ _ _ _ _ => trivial⟩)
  · rename_i ds
    cases r with
    | tup qa ra =>
      exact .inr (.inl ⟨_, rfl, ⟨_, hw1.seqT qa⟩, c _ _ W1 H1 _ hq x wlk_tup fun Γ' σ' W' H' l s' _ => ⟨_, s'.holds.seqT (SqT.le l qa), ra.le l⟩⟩)
  · rename_i ds
    cases r with
    | lst qa ra =>
      exact .inl ⟨_, rfl, ⟨_, .of (hw1.b _ _ qa).lst⟩, c _ _ W1 H1 _ hq x wlk_list fun Γ' σ' W' H' l s' _ => ⟨_, (s'.holds.b _ _ (l.b _ _ qa)).lst, ra.le l⟩⟩
/-- over a caller's list -/
theorem ei_bo (i : Nat) {tg : Expr} {x : Str} {pos : Pos} (hN : N[i]? = some x := by rfl) (hv : Vis sc x := by first | exact Or.inl rfl | exact Or.inr (Or.inl rfl) | exact Or.inr (Or.inr rfl)) (hd : (x == ("__debug__" : Str)) = false := by decide) (hcd : (x == ("__classdict__" : Str)) = false := by decide) :
    EI F keep0 tg (.Name x pos) (wBoIt i) := by
  refine ⟨_, fun j => (by
    have := pi_any (tg := tg) (pe_slot (F := F) (pos := pos) hN hv hd hcd j)
    rw [F.K'] at this
    exact this), fun C Γ σ W H q R s hw c => ?_⟩
  have hw : boIt Γ[i]? q := hw
  cases e : Γ[i]? with
  | none => rw [e] at hw; exact hw.elim
  | some cc =>
    rw [e] at hw
    have hc := s.cel i cc e
    match cc, hw with
    | .bo (.lst ds), hw =>
      obtain ⟨v, e1, r⟩ := hc
      refine ⟨v, e1, .inl ?_⟩
      rcases r with r | ⟨a, o, rfl, e2, p, r⟩
      · cases r with
        | lst qa ra => exact ⟨_, rfl, ⟨_, .of (s.holds.b _ _ qa).lst⟩, c _ _ W H _ hw (.refl s.holds) wlk_list fun Γ' σ' W' H' l s' _ => ⟨_, (s'.holds.b _ _ (l.b _ _ qa)).lst, ra.le l⟩⟩
      · cases r with
        | lst ra =>
          exact ⟨_, rfl, ⟨_, .of (s.glo.rd e2 p).1.lst⟩, c _ _ W H _ hw (.refl s.holds) wlk_list fun Γ' σ' W' H' l s' _ => ⟨_, (s'.glo.rd e2 p).1.lst, ra.le l⟩⟩
    | .bo (.tup ds), hw =>
      obtain ⟨v, e1, r⟩ := hc
      refine ⟨v, e1, .inr (.inl ?_)⟩
      rcases r with r | ⟨a, o, rfl, e2, p, r⟩
      · cases r with
        | tup qa ra => exact ⟨_, rfl, ⟨_, s.holds.seqT qa⟩, c _ _ W H _ hw (.refl s.holds) wlk_tup fun Γ' σ' W' H' l s' _ => ⟨_, s'.holds.seqT (SqT.le l qa), ra.le l⟩⟩
      · cases r
/-- over an own list, which the turns leave -/
theorem ei_ow (i : Nat) {tg : Expr} {x : Str} {pos : Pos} (hN : N[i]? = some x := by rfl) (hv : Vis sc x := by first | exact Or.inl rfl | exact Or.inr (Or.inl rfl) | exact Or.inr (Or.inr rfl)) (hd : (x == ("__debug__" : Str)) = false := by decide) (hcd : (x == ("__classdict__" : Str)) = false := by decide) :
    EI F (keepAt i) tg (.Name x pos) (wOwIt i) := by
  refine ⟨_, fun j => (by
    have := pi_any (tg := tg) (pe_slot (F := F) (pos := pos) hN hv hd hcd j)
    rw [F.K'] at this
    exact this), fun C Γ σ W H q R s hw c => ?_⟩
  have hw : owIt Γ[i]? q := hw
  cases e : Γ[i]? with
  | none => rw [e] at hw; exact hw.elim
  | some cc =>
    rw [e] at hw
    have hc := s.cel i cc e
    match cc, hw with
    | .ow a (.lst ds), hw =>
      obtain ⟨e1, _, _, p, o, e2, r⟩ := hc
      refine ⟨_, e1, .inl ?_⟩
      cases r with
      | lst ra =>
        refine ⟨_, rfl, ⟨_, .of e2⟩, c _ _ W H _ hw (.refl s.holds) wlk_list fun Γ' σ' W' H' l s' kk => ?_⟩
        have kk : Γ'[i]? = Γ[i]? := kk
        rw [e] at kk
        obtain ⟨_, _, _, _, o', e3, r'⟩ := s'.cel i _ kk
        cases r' with
        | lst ra' => exact ⟨_, e3, ra'⟩
theorem ei_range1 {tg a : Expr} {wa : WE} {p pos : Pos} (ha : EV F a wa) (hm : mg "range" = none) (hg : GlS sc "range" := by rfl) (hs : ∀ j : F.ι, starEach [a] (F.X j).env = [(false, eval a (F.X j).env)] := by intro _; rfl) : EI F keep0 tg (.Call (.Name "range" p) [a] [] pos) (wRange1 wa) := by
  obtain ⟨ta, a1, a2⟩ := ha
  refine ⟨_, fun j => pi_range1 (gl_of hg j) (by rw [F.mg']; exact hm) (pa_cons (a1 j) pa_nil (hs j)) (hs j), fun C Γ σ W H q R s hw c => ?_⟩
  refine a2 C Γ σ W H _ _ s hw fun v d W1 H1 hq x r => ?_
  obtain ⟨n, rfl, h1, h2⟩ := kInt_of hq
  rw [r.int]
  refine ⟨n, rfl, h1.1, h1.2, c (Itr 0 n.toNat) _ W1 H1 _ h2 x ?_ fun _ _ _ _ _ _ _ => trivial⟩
  have := wlk_range (K := K) (lo := 0) (n := n.toNat)
  simpa using this
theorem ei_range2 {tg a b : Expr} {wa wb : WE} {p pos : Pos} (ha : EV F a wa) (hb : EV F b wb) (hm : mg "range" = none) (hg : GlS sc "range" := by rfl) (hs : ∀ j : F.ι, starEach [a, b] (F.X j).env = [(false, eval a (F.X j).env), (false, eval b (F.X j).env)] := by intro _; rfl)
    (hs2 : ∀ j : F.ι, starEach [b] (F.X j).env = [(false, eval b (F.X j).env)] := by intro _; rfl) : EI F keep0 tg (.Call (.Name "range" p) [a, b] [] pos) (wRange2 wa wb) := by
  obtain ⟨ta, a1, a2⟩ := ha
  obtain ⟨tb, b1, b2⟩ := hb
  refine ⟨_, fun j => pi_range2 (gl_of hg j) (by rw [F.mg']; exact hm) (pa_cons (a1 j) (pa_cons (b1 j) pa_nil (hs2 j)) ((hs j).trans (by rw [hs2 j]))) (hs j) (hs2 j), fun C Γ σ W H q R s hw c => ?_⟩
  refine a2 C Γ σ W H _ _ s hw fun v d W1 H1 hq x r => ?_
  refine b2 C Γ σ W1 H1 _ _ (s.ext x) hq fun u e W2 H2 hq2 x2 r2 => ?_
  obtain ⟨m, rfl, h1⟩ := kInt_of hq2
  obtain ⟨n, rfl, h2, h3⟩ := kInt_of h1
  rw [r.int, r2.int]
  exact ⟨m, n, rfl, ⟨h2.1, h2.2.1, h2.2.2.1, h2.2.2.2⟩, c (Itr m (n - m).toNat) _ W2 H2 _ h3 (x.trans s.holds x2) wlk_range fun _ _ _ _ _ _ _ => trivial⟩

/-! ### targets -/
theorem eg_nm (i : Nat) {x : Str} {pos : Pos} (hN : N[i]? = some x := by rfl) (hx : L2.Loc sc x := by first | exact Or.inl rfl | exact Or.inr rfl) (hf : (∀ j : F.ι, (F.X j).fn x = true) ∨ sc.names.lookup x = some .local := by first | exact Or.inr rfl | exact Or.inl (fun _ => rfl)) : EG F (.Name x pos) (gNm i) := by
  refine ⟨gName i, fun j => pg_name (by rw [F.N']; exact F.nd) (by rw [F.N']; exact hN) (by unfold L2.Loc at hx ⊢; rw [F.sc']; exact hx) (by rw [F.sc']; exact hf.imp (fun h => h j) id), fun C Γ σ W H v d q Q s r hw c => ?_⟩
  exact c _ _ W H hw (.refl s.holds) (s.setSh r)
/-- targets in a row -/
def EGs (F : Fam P w K mg base N sc k) (ts : List Expr) (wg : WGs) : Prop := ∃ g : TGs, (∀ i, PGs (F.X i) ts g) ∧ ∀ C Γ σ W H vs ds (q : Gam → Prop) (Q : L2.St → Hp → Prop), Sta K C Γ σ W H → Reps K W vs ds → wg ds Γ q →
  (∀ Γ' σ' W' H', q Γ' → Ext W H W' H' → Sta K C Γ' σ' W' H' → Q σ' H') → g vs σ H Q
theorem egs_nil : EGs F [] gsNil := ⟨gNil, fun j => pgs_nil, fun C Γ σ W H vs ds q Q s r hw c => by
  obtain ⟨rfl, hw⟩ := hw
  cases r
  exact ⟨rfl, c Γ σ W H hw (.refl s.holds) s⟩⟩
theorem egs_cons {e : Expr} {es : List Expr} {g : WG} {gs : WGs} (h1 : EG F e g) (h2 : EGs F es gs)
    (hs : ∀ j : F.ι, (assignEach (e :: es) (F.X j).env).map (·.2) = assign e (F.X j).env :: (assignEach es (F.X j).env).map (·.2) := by intro _; rfl) : EGs F (e :: es) (gsCons g gs) := by
  obtain ⟨t1, a1, a2⟩ := h1
  obtain ⟨t2, b1, b2⟩ := h2
  refine ⟨_, fun j => pgs_cons (a1 j) (b1 j) (hs j), fun C Γ σ W H vs ds q Q s r hw c => ?_⟩
  cases r with
  | nil => exact hw.elim
  | cons r rr =>
    refine ⟨_, _, rfl, a2 C Γ σ W H _ _ _ _ s r hw fun Γ1 σ1 W1 H1 hq x1 s1 => ?_⟩
    exact b2 C Γ1 σ1 W1 H1 _ _ _ _ s1 (rr.le x1.le) hq fun Γ2 σ2 W2 H2 hq2 x2 s2 => c Γ2 σ2 W2 H2 hq2 (x1.trans s.holds x2) s2
theorem eg_tp {es : List Expr} {kk n : Nat} {gs : WGs} {pos : Pos} (h : EGs F es gs) (hn : ∀ j : F.ι, (assignEach es (F.X j).env).length = n := by intro _; rfl) (hst : ∀ j : F.ι, (assignEach es (F.X j).env).findIdx? (·.1) = none := by intro _; rfl) :
    EG F (.Tuple es kk pos) (gTp n gs) := by
  obtain ⟨t1, a1, a2⟩ := h
  refine ⟨gTup K n t1, fun j => (by
    have := pg_tup (pos := pos) (k := kk) (F.calm j) (a1 j) (hn j) (hst j)
    rw [F.K'] at this
    exact this), fun C Γ σ W H v d q Q s r hw c => ?_⟩
  cases r with
  | tup qa ra =>
    obtain ⟨hl, hw⟩ := hw
    exact ⟨_, _, rfl, s.holds.seqT qa, by rw [ra.length]; exact hl, a2 C Γ σ W H _ _ _ _ s ra hw c⟩
  | _ => exact hw.elim

/-! ### comprehensions -/
/-- the contexts of a comprehension's block -/
def Fam.blk (F : Fam P w K mg base N sc k) (scope : Scope) : Fam P w K mg base N (relS scope sc) k where
  ι := F.ι × Shared × Hp × Addr × List (Str × Addr) × List Addr
  X := fun j => (F.X j.1).blk j.2.1 j.2.2.1 scope (compEnvC scope j.2.2.2.2.1 j.2.2.2.1 (F.X j.1).env) j.2.2.2.2.2
  prog := fun j => F.prog j.1
  w' := fun j => F.w' j.1
  K' := fun j => F.K' j.1
  mg' := fun j => F.mg' j.1
  base' := fun j => F.base' j.1
  N' := fun j => F.N' j.1
  sc' := fun j => by
    show relS scope (F.X j.1).env.scope = _
    rw [F.sc']
  calm := fun j => F.calm j.1
  room := fun j => F.room j.1
  nd := F.nd
theorem wipeD_len (Γ : Gam) : ∀ vs : List Nat, (wipeD Γ vs).length = Γ.length
  | [] => rfl
  | v :: vs => by unfold wipeD; rw [List.length_set, wipeD_len Γ vs]
theorem wipeD_get {Γ : Gam} : ∀ {vs : List Nat} {i : Nat} {c : Cel}, (wipeD Γ vs)[i]? = some c → c = .no ∨ (i ∉ vs ∧ Γ[i]? = some c)
  | [], _, _, h => .inr ⟨by simp, h⟩
  | v :: vs, i, c, h => by
    unfold wipeD at h
    by_cases hi : v = i
    · subst hi
      by_cases hv : v < (wipeD Γ vs).length
      · rw [List.getElem?_set_self hv] at h
        cases h
        exact .inl rfl
      · rw [List.getElem?_eq_none (by simpa using hv)] at h
        cases h
    · rw [List.getElem?_set_ne hi] at h
      rcases wipeD_get h with h | ⟨h1, h2⟩
      · exact .inl h
      · exact .inr ⟨by simp only [List.mem_cons, not_or]; exact ⟨fun e => hi e.symm, h1⟩, h2⟩
theorem wipe_get {σ : L2.St} : ∀ {vs : List Nat} {i : Nat}, i ∉ vs → (wipe σ vs)[i]? = σ[i]?
  | [], _, _ => rfl
  | v :: vs, i, h => by
    unfold wipe
    have h : ¬ i = v ∧ i ∉ vs := by simpa using h
    rw [List.getElem?_set_ne (fun e => h.1 e.symm)]
    exact wipe_get h.2
theorem Sta.wipe {Γ : Gam} {σ : L2.St} {W : Wd} {H : Hp} (s : Sta K C Γ σ W H) (vs : List Nat) : Sta K C (wipeD Γ vs) (wipe σ vs) W H := by
  refine ⟨s.glo, by rw [wipeD_len, wipe_length]; exact s.len, fun i c e => ?_, fun i j a b d e h1 h2 h3 => ?_⟩
  · rcases wipeD_get e with rfl | ⟨h1, h2⟩
    · trivial
    · rw [wipe_get h1]
      exact s.cel i c h2
  · rcases wipeD_get h1 with h1 | ⟨_, h1⟩
    · cases h1
    · rcases wipeD_get h2 with h2 | ⟨_, h2⟩
      · cases h2
      · exact s.ap i j a b d e h1 h2 h3
theorem wipe_at (σ : L2.St) : ∀ {vs : List Nat} {i : Nat}, i ∈ vs → (L2.wipe σ vs)[i]? = none ∨ (L2.wipe σ vs)[i]? = some none
  | v :: vs, i, h => by
    unfold L2.wipe
    by_cases hi : v = i
    · subst hi
      by_cases hv : v < (L2.wipe σ vs).length
      · rw [List.getElem?_set_self hv]; exact .inr rfl
      · exact .inl (List.getElem?_eq_none (by simpa using hv))
    · rw [List.getElem?_set_ne hi]
      rcases List.mem_cons.mp h with h | h
      · exact absurd h.symm hi
      · exact wipe_at σ h
theorem wipe_wipe (σ : L2.St) (vs : List Nat) : L2.wipe (L2.wipe σ vs) vs = L2.wipe σ vs := by
  refine List.ext_getElem? fun i => ?_
  by_cases hi : i ∈ vs
  · have hl : (L2.wipe (L2.wipe σ vs) vs).length = (L2.wipe σ vs).length := by rw [L2.wipe_length]
    rcases wipe_at (L2.wipe σ vs) hi with h | h <;> rcases wipe_at σ hi with h' | h'
    · rw [h, h']
    · have h1 := List.getElem?_eq_none_iff.mp h
      have h2 := (List.getElem?_eq_some_iff.mp h').1
      omega
    · have h1 := List.getElem?_eq_none_iff.mp h'
      have h2 := (List.getElem?_eq_some_iff.mp h).1
      omega
    · rw [h, h']
  · exact wipe_get hi
/-- a target that sets names at places in vs alone -/
def EGo (F : Fam P w K mg base N sc k) (vs : List Nat) (tg : Expr) (wg : WG) : Prop := ∃ g : TG, (∀ i, PG (F.X i) tg g) ∧ ∀ C Γ σ W H v d (q : Gam → Prop) (Q : L2.St → Hp → Prop), Sta K C Γ σ W H → Rep K W v d → wg d Γ q →
  (∀ Γ' σ' W' H', q Γ' → Ext W H W' H' → Sta K C Γ' σ' W' H' → L2.wipe σ' vs = L2.wipe σ vs → Q σ' H') → g v σ H Q
theorem wipe_set {σ : L2.St} {i : Nat} {v : V} : ∀ {vs : List Nat}, i ∈ vs → L2.wipe (σ.set i (some v)) vs = L2.wipe σ vs
  | j :: vs, h => by
    unfold L2.wipe
    by_cases hi : i ∈ vs
    · rw [wipe_set hi]
    · have e : i = j := by
        rcases List.mem_cons.mp h with h | h
        · exact h
        · exact absurd h hi
      subst e
      have : ∀ ws : List Nat, i ∉ ws → (L2.wipe (σ.set i (some v)) ws) = (L2.wipe σ ws).set i (some v) := by
        intro ws
        induction ws with
        | nil => intro _; rfl
        | cons a ws ih =>
          intro hn
          have hn : ¬ i = a ∧ i ∉ ws := by simpa using hn
          unfold L2.wipe
          rw [ih hn.2, List.set_comm _ _ hn.1]
      rw [this vs hi, List.set_set]
theorem ego_nm {vs : List Nat} (i : Nat) {x : Str} {pos : Pos} (hi : i ∈ vs := by decide) (hN : N[i]? = some x := by rfl) (hx : L2.Loc sc x := by first | exact Or.inl rfl | exact Or.inr rfl) (hf : (∀ j : F.ι, (F.X j).fn x = true) ∨ sc.names.lookup x = some .local := by first | exact Or.inr rfl | exact Or.inl (fun _ => rfl)) : EGo F vs (.Name x pos) (gNm i) := by
  refine ⟨gName i, fun j => pg_name (by rw [F.N']; exact F.nd) (by rw [F.N']; exact hN) (by unfold L2.Loc at hx ⊢; rw [F.sc']; exact hx) (by rw [F.sc']; exact hf.imp (fun h => h j) id), fun C Γ σ W H v d q Q s r hw c => ?_⟩
  exact c _ _ W H hw (.refl s.holds) (s.setSh r) (wipe_set hi)
def EGso (F : Fam P w K mg base N sc k) (vs : List Nat) (ts : List Expr) (wg : WGs) : Prop := ∃ g : TGs, (∀ i, PGs (F.X i) ts g) ∧ ∀ C Γ σ W H us ds (q : Gam → Prop) (Q : L2.St → Hp → Prop), Sta K C Γ σ W H → Reps K W us ds → wg ds Γ q →
  (∀ Γ' σ' W' H', q Γ' → Ext W H W' H' → Sta K C Γ' σ' W' H' → L2.wipe σ' vs = L2.wipe σ vs → Q σ' H') → g us σ H Q
theorem egso_nil {vs : List Nat} : EGso F vs [] gsNil := ⟨gNil, fun j => pgs_nil, fun C Γ σ W H us ds q Q s r hw c => by
  obtain ⟨rfl, hw⟩ := hw
  cases r
  exact ⟨rfl, c Γ σ W H hw (.refl s.holds) s rfl⟩⟩
theorem egso_cons {vs : List Nat} {e : Expr} {es : List Expr} {g : WG} {gs : WGs} (h1 : EGo F vs e g) (h2 : EGso F vs es gs)
    (hs : ∀ j : F.ι, (assignEach (e :: es) (F.X j).env).map (·.2) = assign e (F.X j).env :: (assignEach es (F.X j).env).map (·.2) := by intro _; rfl) : EGso F vs (e :: es) (gsCons g gs) := by
  obtain ⟨t1, a1, a2⟩ := h1
  obtain ⟨t2, b1, b2⟩ := h2
  refine ⟨_, fun j => pgs_cons (a1 j) (b1 j) (hs j), fun C Γ σ W H us ds q Q s r hw c => ?_⟩
  cases r with
  | nil => exact hw.elim
  | cons r rr =>
    refine ⟨_, _, rfl, a2 C Γ σ W H _ _ _ _ s r hw fun Γ1 σ1 W1 H1 hq x1 s1 e1 => ?_⟩
    exact b2 C Γ1 σ1 W1 H1 _ _ _ _ s1 (rr.le x1.le) hq fun Γ2 σ2 W2 H2 hq2 x2 s2 e2 => c Γ2 σ2 W2 H2 hq2 (x1.trans s.holds x2) s2 (e2.trans e1)
theorem ego_tp {vs : List Nat} {es : List Expr} {kk n : Nat} {gs : WGs} {pos : Pos} (h : EGso F vs es gs) (hn : ∀ j : F.ι, (assignEach es (F.X j).env).length = n := by intro _; rfl) (hst : ∀ j : F.ι, (assignEach es (F.X j).env).findIdx? (·.1) = none := by intro _; rfl) :
    EGo F vs (.Tuple es kk pos) (gTp n gs) := by
  obtain ⟨t1, a1, a2⟩ := h
  refine ⟨gTup K n t1, fun j => (by
    have := pg_tup (pos := pos) (k := kk) (F.calm j) (a1 j) (hn j) (hst j)
    rw [F.K'] at this
    exact this), fun C Γ σ W H v d q Q s r hw c => ?_⟩
  cases r with
  | tup qa ra =>
    obtain ⟨hl, hw⟩ := hw
    exact ⟨_, _, rfl, s.holds.seqT qa, by rw [ra.length]; exact hl, a2 C Γ σ W H _ _ _ _ s ra hw c⟩
  | _ => exact hw.elim
def EPts (F : Fam P w K mg base N sc k) (ifs : List Expr) (wt : WT) : Prop := ∃ tt : TT, (∀ i, PTs (F.X i) ifs tt) ∧ ∀ C Γ σ W H (q : Bool → Prop) (Q : Bool → Hp → Prop), Sta K C Γ σ W H → wt Γ q →
  (∀ b W' H', q b → Ext W H W' H' → Q b H') → tt σ H Q
theorem epts_nil : EPts F [] wYes := ⟨_, fun j => pts_nil, fun C Γ σ W H q Q s hw c => c true W H hw (.refl s.holds)⟩
theorem epts_one {c : Expr} {wt : WT} (h : ET F c wt) : EPts F [c] wt := by
  obtain ⟨tt, h1, h2⟩ := h
  exact ⟨_, fun j => pts_one (h1 j), h2⟩
/-- the turns of a comprehension -/
theorem comp_run {J : It} {ds : List D} {G : Wd → Hp → Prop} {vs : List Nat} {g : WG} {wt : WT} {we : WE} {tg : TG} {tt : TT} {te : TE} {Γ : Gam} {σ : L2.St} {W1 : Wd} {H1 : Hp} {q : List D → Prop} {Q : VK} {A : Addr}
    (wl : Wlk K J ds G) (st : ∀ W' H', W1.Le W' → Sta K C Γ σ W' H' → G W' H') (s : Sta K C Γ σ W1 H1) (nA : H1 A = none)
    (hg : ∀ C Γ σ W H v d (q : Gam → Prop) (Q : L2.St → Hp → Prop), Sta K C Γ σ W H → Rep K W v d → g d Γ q → (∀ Γ' σ' W' H', q Γ' → Ext W H W' H' → Sta K C Γ' σ' W' H' → L2.wipe σ' vs = L2.wipe σ vs → Q σ' H') → tg v σ H Q)
    (ht : ∀ C Γ σ W H (q : Bool → Prop) (Q : Bool → Hp → Prop), Sta K C Γ σ W H → wt Γ q → (∀ b W' H', q b → Ext W H W' H' → Q b H') → tt σ H Q)
    (he : ∀ C Γ σ W H (q : D → Prop) (Q : VK), Sta K C Γ σ W H → we Γ q → (∀ v d W' H', q d → Ext W H W' H' → Rep K W' v d → Q v H') → te σ H Q)
    (hw : compD g wt we (wipeD Γ vs) q ds []) (fin : ∀ acc W' H', q acc → Ext W1 H1 W' H' → New K W1 H1 W' H' (.ref A) (.lst acc) → Q (.ref A) H') :
    ∃ Wi : Nat → Nat → Hp → Prop, (∃ m, Wi 0 m (L2.upd H1 A (.lst []))) ∧ ∀ i m H, Wi i m H →
      (J.stop i H ∧ Q (.ref A) H) ∨ (J.go i H ∧ ∃ Nx : Hp → Prop, (∀ H', Nx H' → ∃ m', m' < m ∧ Wi (i + 1) m' H') ∧ ∀ x H', J.yld i H x H' → tg x (L2.wipe σ vs) H' fun σ2 H2 => L2.wipe σ2 vs = L2.wipe σ vs ∧ tt σ2 H2 fun b H3 =>
        if b = true then te σ2 H3 fun y H4 => ∃ acc, H4 A = some (.lst acc) ∧ acc.length < sizeLine ∧ Nx (L2.upd H4 A (.lst (acc ++ [y]))) else Nx H3) := by
  obtain ⟨x0, nB, nP⟩ := Ext.upd (o := .lst []) s.holds nA
  -- the invariant: the rest of the turns, from the list so far
  refine ⟨fun i m H => m = ds.length - i ∧ i ≤ ds.length ∧ ∃ (W : Wd) (acc : List D) (vsA : List V), Ext W1 H1 W H ∧ W.B A = none ∧ ¬ W.P A ∧ H A = some (.lst vsA) ∧ Reps K W vsA acc ∧ compD g wt we (wipeD Γ vs) q (ds.drop i) acc,
    ⟨ds.length, by simp, Nat.zero_le _, W1, [], [], x0, nB, nP, L2.upd_same, .nil, hw⟩, ?_⟩
  rintro i m H ⟨rfl, hi, W, acc, vsA, x, bA, pA, hA, rA, hc⟩
  have sW : Sta K C Γ σ W H := s.ext x
  have gW := st W H x.le sW
  by_cases hlt : i < ds.length
  · have hd : ds.drop i = ds[i] :: ds.drop (i + 1) := List.drop_eq_getElem_cons hlt
    rw [hd] at hc
    refine .inr ⟨wl.go i W H gW x.holds hlt, fun H' => ∃ (W : Wd) (acc : List D) (vsA : List V), Ext W1 H1 W H' ∧ W.B A = none ∧ ¬ W.P A ∧ H' A = some (.lst vsA) ∧ Reps K W vsA acc ∧ compD g wt we (wipeD Γ vs) q (ds.drop (i + 1)) acc, fun H' h' => ⟨ds.length - (i + 1), by omega, rfl, hlt, h'⟩, fun v H' y => ?_⟩
    obtain ⟨W2, x2, r2⟩ := wl.yld i _ W H v H' (List.getElem?_eq_getElem hlt) gW x.holds y
    have hA2 : H' A = some (.lst vsA) := x2.fr _ _ hA pA
    have stay : ∀ {W' : Wd} {H' : Hp}, Ext W H W' H' → H' A = some (.lst vsA) ∧ W'.B A = none ∧ ¬ W'.P A := fun {W' H'} x' => by
      refine ⟨x'.fr _ _ hA pA, ?_, x'.npool (by rw [hA]; exact fun q => nomatch q) pA⟩
      cases e : W'.B A with
      | none => rfl
      | some u =>
        rcases x'.nb A u e with e | ⟨n, _⟩
        · rw [bA] at e; cases e
        · rw [n] at hA; cases hA
    refine hg C _ _ W2 H' v _ _ _ ((sW.wipe vs).ext x2) r2 hc fun Γ3 σ3 W3 H3 hq3 x3 s3 e3 => ⟨e3.trans (wipe_wipe _ _), ?_⟩
    have x13 := x2.trans x.holds x3
    refine ht C Γ3 σ3 W3 H3 _ _ s3 hq3 fun b W4 H4 hq4 x4 => ?_
    have x14 := x13.trans x.holds x4
    cases b with
    | false =>
      refine iteF ?_
      obtain ⟨h1, h2, h3⟩ := stay x14
      exact ⟨W4, acc, vsA, x.trans s.holds x14, h2, h3, h1, rA.le x14.le, by simpa using hq4⟩
    | true =>
      refine iteT ?_
      refine he C Γ3 σ3 W4 H4 _ _ (s3.ext x4) (by simpa using hq4) fun u d W5 H5 hq5 x5 r5 => ?_
      have x15 := x14.trans x.holds x5
      obtain ⟨h1, h2, h3⟩ := stay x15
      refine ⟨vsA, h1, by rw [rA.length, ← SZ_eq]; exact hq5.1, W5, acc ++ [d], vsA ++ [u], ?_, h2, h3, L2.upd_same, (rA.le x15.le).append (.cons r5 .nil), hq5.2⟩
      have xx := x.trans s.holds x15
      refine ⟨xx.le, fun a o e => ?_, xx.np, ⟨fun a o e => ?_, fun a p => ?_⟩, fun a o e p => ?_⟩
      · rcases xx.nb a o e with q | ⟨q1, q2⟩
        · exact .inl q
        · exact .inr ⟨q1, by rw [L2.upd_ne (fun z => by rw [z, h2] at e; cases e)]; exact q2⟩
      · have ha : a ≠ A := fun z => by rw [z, h2] at e; cases e
        rcases xx.holds.b a o e with q | ⟨m, ob, q⟩
        · exact .inl (by rw [L2.upd_ne ha]; exact q)
        · exact .inr ⟨m, ob, by rw [L2.upd_ne ha]; exact q⟩
      · have ha : a ≠ A := fun z => h3 (by rw [← z]; exact p)
        obtain ⟨⟨x', y', z', e, r⟩, b⟩ := xx.holds.p a p
        exact ⟨⟨x', y', z', by rw [L2.upd_ne ha]; exact e, r⟩, b⟩
      · rw [L2.upd_ne (fun z => by rw [z, nA] at e; cases e)]
        exact xx.fr a o e p
  · have e : i = ds.length := by omega
    subst e
    rw [List.drop_length] at hc
    exact .inl ⟨wl.stop W H gW x.holds, fin acc W H hc x (.inr ⟨A, _, rfl, nA, bA, pA, hA, .lst rA⟩)⟩
/-- the turns of a dict's comprehension -/
theorem dcomp_run {J : It} {ds : List D} {G : Wd → Hp → Prop} {vs : List Nat} {g : WG} {wt : WT} {we wf : WE} {tg : TG} {tt : TT} {te tf : TE} {Γ : Gam} {σ : L2.St} {W1 : Wd} {H1 : Hp} {q : List (D × D) → Prop} {Q : VK} {A : Addr}
    (wl : Wlk K J ds G) (st : ∀ W' H', W1.Le W' → Sta K C Γ σ W' H' → G W' H') (s : Sta K C Γ σ W1 H1) (nA : H1 A = none)
    (hg : ∀ C Γ σ W H v d (q : Gam → Prop) (Q : L2.St → Hp → Prop), Sta K C Γ σ W H → Rep K W v d → g d Γ q → (∀ Γ' σ' W' H', q Γ' → Ext W H W' H' → Sta K C Γ' σ' W' H' → L2.wipe σ' vs = L2.wipe σ vs → Q σ' H') → tg v σ H Q)
    (ht : ∀ C Γ σ W H (q : Bool → Prop) (Q : Bool → Hp → Prop), Sta K C Γ σ W H → wt Γ q → (∀ b W' H', q b → Ext W H W' H' → Q b H') → tt σ H Q)
    (he : ∀ C Γ σ W H (q : D → Prop) (Q : VK), Sta K C Γ σ W H → we Γ q → (∀ v d W' H', q d → Ext W H W' H' → Rep K W' v d → Q v H') → te σ H Q)
    (hf : ∀ C Γ σ W H (q : D → Prop) (Q : VK), Sta K C Γ σ W H → wf Γ q → (∀ v d W' H', q d → Ext W H W' H' → Rep K W' v d → Q v H') → tf σ H Q)
    (hw : dcompD g wt we wf (wipeD Γ vs) q ds []) (fin : ∀ acc W' H', q acc → Ext W1 H1 W' H' → New K W1 H1 W' H' (.ref A) (.dic acc) → Q (.ref A) H') :
    ∃ Wi : Nat → Nat → Hp → Prop, (∃ m, Wi 0 m (L2.upd H1 A (.dK []))) ∧ ∀ i m H, Wi i m H →
      (J.stop i H ∧ Q (.ref A) H) ∨ (J.go i H ∧ ∃ Nx : Hp → Prop, (∀ H', Nx H' → ∃ m', m' < m ∧ Wi (i + 1) m' H') ∧ ∀ x H', J.yld i H x H' → tg x (L2.wipe σ vs) H' fun σ2 H2 => L2.wipe σ2 vs = L2.wipe σ vs ∧ tt σ2 H2 fun b H3 =>
        if b = true then te σ2 H3 fun y H4 => tf σ2 H4 fun z H5 => ∃ kvs k, y = kV k ∧ H5 A = some (.dK kvs) ∧ kvs.length < sizeLine ∧ Nx (L2.upd H5 A (.dK (putK kvs k z))) else Nx H3) := by
  obtain ⟨x0, nB, nP⟩ := Ext.upd (o := .dK []) s.holds nA
  -- the invariant: the rest of the turns, from the list so far
  refine ⟨fun i m H => m = ds.length - i ∧ i ≤ ds.length ∧ ∃ (W : Wd) (acc : List (D × D)) (vsA : List (Key × V)), Ext W1 H1 W H ∧ W.B A = none ∧ ¬ W.P A ∧ H A = some (.dK vsA) ∧ RepK K W vsA acc ∧ dcompD g wt we wf (wipeD Γ vs) q (ds.drop i) acc,
    ⟨ds.length, by simp, Nat.zero_le _, W1, [], [], x0, nB, nP, L2.upd_same, .nil, hw⟩, ?_⟩
  rintro i m H ⟨rfl, hi, W, acc, vsA, x, bA, pA, hA, rA, hc⟩
  have sW : Sta K C Γ σ W H := s.ext x
  have gW := st W H x.le sW
  by_cases hlt : i < ds.length
  · have hd : ds.drop i = ds[i] :: ds.drop (i + 1) := List.drop_eq_getElem_cons hlt
    rw [hd] at hc
    refine .inr ⟨wl.go i W H gW x.holds hlt, fun H' => ∃ (W : Wd) (acc : List (D × D)) (vsA : List (Key × V)), Ext W1 H1 W H' ∧ W.B A = none ∧ ¬ W.P A ∧ H' A = some (.dK vsA) ∧ RepK K W vsA acc ∧ dcompD g wt we wf (wipeD Γ vs) q (ds.drop (i + 1)) acc, fun H' h' => ⟨ds.length - (i + 1), by omega, rfl, hlt, h'⟩, fun v H' y => ?_⟩
    obtain ⟨W2, x2, r2⟩ := wl.yld i _ W H v H' (List.getElem?_eq_getElem hlt) gW x.holds y
    have hA2 : H' A = some (.dK vsA) := x2.fr _ _ hA pA
    have stay : ∀ {W' : Wd} {H' : Hp}, Ext W H W' H' → H' A = some (.dK vsA) ∧ W'.B A = none ∧ ¬ W'.P A := fun {W' H'} x' => by
      refine ⟨x'.fr _ _ hA pA, ?_, x'.npool (by rw [hA]; exact fun q => nomatch q) pA⟩
      cases e : W'.B A with
      | none => rfl
      | some u =>
        rcases x'.nb A u e with e | ⟨n, _⟩
        · rw [bA] at e; cases e
        · rw [n] at hA; cases hA
    refine hg C _ _ W2 H' v _ _ _ ((sW.wipe vs).ext x2) r2 hc fun Γ3 σ3 W3 H3 hq3 x3 s3 e3 => ⟨e3.trans (wipe_wipe _ _), ?_⟩
    have x13 := x2.trans x.holds x3
    refine ht C Γ3 σ3 W3 H3 _ _ s3 hq3 fun b W4 H4 hq4 x4 => ?_
    have x14 := x13.trans x.holds x4
    cases b with
    | false =>
      refine iteF ?_
      obtain ⟨h1, h2, h3⟩ := stay x14
      exact ⟨W4, acc, vsA, x.trans s.holds x14, h2, h3, h1, rA.le x14.le, by simpa using hq4⟩
    | true =>
      refine iteT ?_
      refine he C Γ3 σ3 W4 H4 _ _ (s3.ext x4) (by simpa using hq4) fun u d W5 H5 hq5 x5 r5 => ?_
      have x15' := x14.trans x.holds x5
      refine hf C Γ3 σ3 W5 H5 _ _ ((s3.ext x4).ext x5) hq5 fun u2 d2 W6 H6 hq6 x6 r6 => ?_
      have x15 := x15'.trans x.holds x6
      obtain ⟨h1, h2, h3⟩ := stay x15
      obtain ⟨kk, rfl, e⟩ := key_of (r5.le x6.le) hq6.1.1
      subst e
      refine ⟨vsA, kk, rfl, h1, by rw [rA.length, ← SZ_eq]; exact hq6.1.2, W6, put acc (keyD kk) d2, putK vsA kk u2, ?_, h2, h3, L2.upd_same, (rA.le x15.le).put kk r6, hq6.2⟩
      have xx := x.trans s.holds x15
      refine ⟨xx.le, fun a o e => ?_, xx.np, ⟨fun a o e => ?_, fun a p => ?_⟩, fun a o e p => ?_⟩
      · rcases xx.nb a o e with q | ⟨q1, q2⟩
        · exact .inl q
        · exact .inr ⟨q1, by rw [L2.upd_ne (fun z => by rw [z, h2] at e; cases e)]; exact q2⟩
      · have ha : a ≠ A := fun z => by rw [z, h2] at e; cases e
        rcases xx.holds.b a o e with q | ⟨m, ob, q⟩
        · exact .inl (by rw [L2.upd_ne ha]; exact q)
        · exact .inr ⟨m, ob, by rw [L2.upd_ne ha]; exact q⟩
      · have ha : a ≠ A := fun z => h3 (by rw [← z]; exact p)
        obtain ⟨⟨x', y', z', e, r⟩, b⟩ := xx.holds.p a p
        exact ⟨⟨x', y', z', by rw [L2.upd_ne ha]; exact e, r⟩, b⟩
      · rw [L2.upd_ne (fun z => by rw [z, nA] at e; cases e)]
        exact xx.fr a o e p
  · have e : i = ds.length := by omega
    subst e
    rw [List.drop_length] at hc
    exact .inl ⟨wl.stop W H gW x.holds, fin acc W H hc x (.inr ⟨A, _, rfl, nA, bA, pA, hA, .dk rA⟩)⟩
end
end DL

/-! DStmt: comprehensions as values, statements over trees. -/
namespace DL
open PySem PySem.Spec PyProof.Rows L2
variable [WW]
section
variable {P : Program} {w : World} {K : PySem.W.Frag} {mg : Str → Option Value} {base : Heap} {N : List Str} {sc : Scope} {k : Nat}
variable {F : Fam P w K mg base N sc k} {C : Ctx}

theorem iteT' {A B : Prop} (h : if true = true then A else B) : A := by rw [if_pos rfl] at h; exact h
theorem iteF' {A B : Prop} (h : if false = true then A else B) : B := by rw [if_neg Bool.false_ne_true] at h; exact h
theorem blk_ok {scope : Scope} {own : List (Str × Nat)} (h : blkC N sc scope own = true) (j : F.ι) : BlkOk (F.X j).N (F.X j).env.scope scope own := by
  have := blkOk_by h
  rw [F.N', F.sc']
  exact this
/-- the reading of a comprehension -/
theorem comp_core {keep : Gam → Gam → Prop} (hk : ∀ Γ, keep Γ Γ) {vs : List Nat} {ti : TI} {wi : WI} {g : WG} {wt : WT} {we : WE} {tg : TG} {tt : TT} {te : TE}
    (hi : ∀ C Γ σ W H (q : List D → Prop) (R : It → Hp → Prop), Sta K C Γ σ W H → wi Γ q → (∀ J ds W1 H1 (G : Wd → Hp → Prop), q ds → Ext W H W1 H1 → Wlk K J ds G → (∀ Γ' σ' W' H', W1.Le W' → Sta K C Γ' σ' W' H' → keep Γ Γ' → G W' H') → R J H1) → ti σ H R)
    (hg : ∀ C Γ σ W H v d (q : Gam → Prop) (Q : L2.St → Hp → Prop), Sta K C Γ σ W H → Rep K W v d → g d Γ q → (∀ Γ' σ' W' H', q Γ' → Ext W H W' H' → Sta K C Γ' σ' W' H' → L2.wipe σ' vs = L2.wipe σ vs → Q σ' H') → tg v σ H Q)
    (ht : ∀ C Γ σ W H (q : Bool → Prop) (Q : Bool → Hp → Prop), Sta K C Γ σ W H → wt Γ q → (∀ b W' H', q b → Ext W H W' H' → Q b H') → tt σ H Q)
    (he : ∀ C Γ σ W H (q : D → Prop) (Q : VK), Sta K C Γ σ W H → we Γ q → (∀ v d W' H', q d → Ext W H W' H' → Rep K W' v d → Q v H') → te σ H Q) :
    ∀ C Γ σ W H (q : D → Prop) (Q : VK), Sta K C Γ σ W H → wComp vs wi g wt we Γ q → (∀ v d W' H', q d → Ext W H W' H' → New K W H W' H' v d → Q v H') → tLc ti tg tt te vs σ H Q := by
  intro C Γ σ W H q Q s hw c
  refine hi C Γ σ W H _ _ s hw fun J ds W1 H1 G hq x wl st A nA => ?_
  refine comp_run wl (fun W' H' l s' => st Γ σ W' H' l s' (hk Γ)) (s.ext x) nA hg ht he hq fun acc W' H' hq' x' n => ?_
  exact c _ _ W' H' hq' (x.trans s.holds x') (n.ext s.holds x)
/-- the reading of a dict's comprehension -/
theorem dcomp_core {keep : Gam → Gam → Prop} (hk : ∀ Γ, keep Γ Γ) {vs : List Nat} {ti : TI} {wi : WI} {g : WG} {wt : WT} {we wf : WE} {tg : TG} {tt : TT} {te tf : TE}
    (hi : ∀ C Γ σ W H (q : List D → Prop) (R : It → Hp → Prop), Sta K C Γ σ W H → wi Γ q → (∀ J ds W1 H1 (G : Wd → Hp → Prop), q ds → Ext W H W1 H1 → Wlk K J ds G → (∀ Γ' σ' W' H', W1.Le W' → Sta K C Γ' σ' W' H' → keep Γ Γ' → G W' H') → R J H1) → ti σ H R)
    (hg : ∀ C Γ σ W H v d (q : Gam → Prop) (Q : L2.St → Hp → Prop), Sta K C Γ σ W H → Rep K W v d → g d Γ q → (∀ Γ' σ' W' H', q Γ' → Ext W H W' H' → Sta K C Γ' σ' W' H' → L2.wipe σ' vs = L2.wipe σ vs → Q σ' H') → tg v σ H Q)
    (ht : ∀ C Γ σ W H (q : Bool → Prop) (Q : Bool → Hp → Prop), Sta K C Γ σ W H → wt Γ q → (∀ b W' H', q b → Ext W H W' H' → Q b H') → tt σ H Q)
    (he : ∀ C Γ σ W H (q : D → Prop) (Q : VK), Sta K C Γ σ W H → we Γ q → (∀ v d W' H', q d → Ext W H W' H' → Rep K W' v d → Q v H') → te σ H Q)
    (hf : ∀ C Γ σ W H (q : D → Prop) (Q : VK), Sta K C Γ σ W H → wf Γ q → (∀ v d W' H', q d → Ext W H W' H' → Rep K W' v d → Q v H') → tf σ H Q) :
    ∀ C Γ σ W H (q : D → Prop) (Q : VK), Sta K C Γ σ W H → wDComp vs wi g wt we wf Γ q → (∀ v d W' H', q d → Ext W H W' H' → New K W H W' H' v d → Q v H') → tDc ti tg tt te tf vs σ H Q := by
  intro C Γ σ W H q Q s hw c
  refine hi C Γ σ W H _ _ s hw fun J ds W1 H1 G hq x wl st A nA => ?_
  refine dcomp_run wl (fun W' H' l s' => st Γ σ W' H' l s' (hk Γ)) (s.ext x) nA hg ht he hf hq fun acc W' H' hq' x' n => ?_
  exact c _ _ W' H' hq' (x.trans s.holds x') (n.ext s.holds x)
section
variable {keep : Gam → Gam → Prop} {elt tg iter : Expr} {ifs : List Expr} {scope : Scope} {own : List (Str × Nat)} {pos spos py : Pos} {wi : WI} {g : WG} {wt : WT} {we : WE}
theorem ef_comp (hk : ∀ Γ, keep Γ Γ) (hi : EI F keep tg iter wi) (ok : blkC N sc scope own = true) (hg : EGo (F.blk scope) (own.map (·.2)) tg g) (ht : EPts (F.blk scope) ifs wt) (he : EX (F.blk scope) elt we)
    (hs : ∀ (j : F.ι) x, foldedSetIterable iter (F.X j).env x = pure x := by intro _ _; rfl) : EF F (.ListComp elt [⟨tg, iter, ifs, 0⟩] scope pos) (wComp (own.map (·.2)) wi g wt we) := by
  obtain ⟨ti, i1, i2⟩ := hi
  obtain ⟨tgt, g1, g2⟩ := hg
  obtain ⟨tt, t1, t2⟩ := ht
  obtain ⟨te, e1, e2⟩ := he
  exact ⟨_, fun j => pe_lc (F.calm j) (by rw [F.N']; exact F.nd) (i1 j) (blk_ok ok j) (fun s H A cl fp => g1 (j, s, H, A, cl, fp)) (fun s H A cl fp => t1 (j, s, H, A, cl, fp)) (fun s H A cl fp => e1 (j, s, H, A, cl, fp)) (hs j), comp_core hk i2 g2 t2 e2⟩
theorem ef_dcomp {kx : Expr} {wk : WE} (hk : ∀ Γ, keep Γ Γ) (hi : EI F keep tg iter wi) (ok : blkC N sc scope own = true) (hg : EGo (F.blk scope) (own.map (·.2)) tg g) (ht : EPts (F.blk scope) ifs wt) (hkx : EX (F.blk scope) kx wk) (he : EX (F.blk scope) elt we)
    (hs : ∀ (j : F.ι) x, foldedSetIterable iter (F.X j).env x = pure x := by intro _ _; rfl) : EF F (.DictComp kx elt [⟨tg, iter, ifs, 0⟩] scope pos) (wDComp (own.map (·.2)) wi g wt wk we) := by
  obtain ⟨ti, i1, i2⟩ := hi
  obtain ⟨tgt, g1, g2⟩ := hg
  obtain ⟨tt, t1, t2⟩ := ht
  obtain ⟨tk, k1, k2⟩ := hkx
  obtain ⟨te, e1, e2⟩ := he
  exact ⟨_, fun j => pe_dc (F.calm j) (by rw [F.N']; exact F.nd) (i1 j) (blk_ok ok j) (fun s H A cl fp => g1 (j, s, H, A, cl, fp)) (fun s H A cl fp => t1 (j, s, H, A, cl, fp)) (fun s H A cl fp => k1 (j, s, H, A, cl, fp)) (fun s H A cl fp => e1 (j, s, H, A, cl, fp)) (hs j), dcomp_core hk i2 g2 t2 k2 e2⟩
end

/-! ### statements -/
section
variable {rk : RK}
theorem Tie.le {E : Ends} {D : DEnds} {W W' : Wd} (t : Tie (K := K) C rk W E D) (l : W.Le W') : Tie (K := K) C rk W' E D :=
  ⟨fun Γ σ W2 H q l2 s => t.nx Γ σ W2 H q (l.trans l2) s, fun Γ σ W2 H q l2 s => t.bk Γ σ W2 H q (l.trans l2) s, fun Γ σ W2 H q l2 s => t.ct Γ σ W2 H q (l.trans l2) s, fun v d W2 H q l2 => t.rt v d W2 H q (l.trans l2)⟩
theorem sxs_nil : SXs F rk [] wNext := ⟨_, fun j => pss_nil, fun C Γ σ W H E D s hw t => t.nx Γ σ W H hw (.refl W) s⟩
theorem sxs_cons {st : Stmt} {rest : List Stmt} {a b : WS} (h1 : SX F rk st a) (h2 : SXs F rk rest b) : SXs F rk (st :: rest) (wSeq a b) := by
  obtain ⟨t1, a1, a2⟩ := h1
  obtain ⟨t2, b1, b2⟩ := h2
  refine ⟨_, fun j => pss_cons (a1 j) (b1 j), fun C Γ σ W H E D s hw t => ?_⟩
  refine a2 C Γ σ W H { E with nx := t2 E } { D with nx := fun Γ' => b D Γ' } s hw ⟨fun Γ1 σ1 W1 H1 q l s1 => b2 C Γ1 σ1 W1 H1 E D s1 q (t.le l), t.bk, t.ct, t.rt⟩
theorem sxs_one {st : Stmt} {a : WS} (h1 : SX F rk st a) : SXs F rk [st] a := by
  obtain ⟨t1, a1, a2⟩ := h1
  exact ⟨_, fun j => pss_one (a1 j), a2⟩
theorem sx_pass {pos : Pos} : SX F rk (.Pass pos) wNext := ⟨_, fun j => ps_pass, fun C Γ σ W H E D s hw t => t.nx Γ σ W H hw (.refl W) s⟩
theorem sx_break {pos : Pos} : SX F rk (.Break pos) wBreak := ⟨_, fun j => ps_break, fun C Γ σ W H E D s hw t => t.bk Γ σ W H hw (.refl W) s⟩
theorem sx_cont {pos : Pos} : SX F rk (.Continue pos) wCont := ⟨_, fun j => ps_continue, fun C Γ σ W H E D s hw t => t.ct Γ σ W H hw (.refl W) s⟩
theorem sx_expr {e : Expr} {we : WE} {pos : Pos} (h : EX F e we) (hs : ∀ j : F.ι, swapsWith e none pos.line (F.X j).env = pure false := by intro _; rfl) : SX F rk (.Expr e pos) (wExpr we) := by
  obtain ⟨t1, a1, a2⟩ := h
  exact ⟨_, fun j => ps_expr (a1 j) (hs j), fun C Γ σ W H E D s hw t => a2 C Γ σ W H _ _ s hw fun v d W' H' q x r => t.nx Γ σ W' H' q x.le (s.ext x)⟩
theorem sx_ret {e : Expr} {we : WE} {pos : Pos} (h : ER F rk e we) : SX F rk (.Return (some e) pos) (wRet we) := by
  obtain ⟨t1, a1, a2⟩ := h
  exact ⟨_, fun j => ps_ret (a1 j), fun C Γ σ W H E D s hw t => a2 C Γ σ W H _ _ s hw t.rt⟩
theorem sx_retN {pos : Pos} : SX F rk (.Return none pos) wRetN := by
  refine ⟨_, fun j => ps_retN, fun C Γ σ W H E D s hw t => t.rt _ _ W H hw (.refl W) s.glo ?_⟩
  cases rk with
  | sh => exact .non
  | fr => exact .inl ⟨rfl, .non⟩
theorem sx_if {c : Expr} {a b : List Stmt} {wt : WT} {wa wb : WS} {pos : Pos} (hc : ET F c wt) (ha : SXs F rk a wa) (hb : SXs F rk b wb) : SX F rk (.If c a b pos) (wIfS wt wa wb) := by
  obtain ⟨tt, c1, c2⟩ := hc
  obtain ⟨t1, a1, a2⟩ := ha
  obtain ⟨t2, b1, b2⟩ := hb
  refine ⟨_, fun j => ps_if (c1 j) (a1 j) (b1 j), fun C Γ σ W H E D s hw t => ?_⟩
  refine c2 C Γ σ W H _ _ s hw fun x W1 H1 hq x1 => ?_
  cases x with
  | true => exact iteT (a2 C Γ σ W1 H1 E D (s.ext x1) (by simpa using hq) (t.le x1.le))
  | false => exact iteF (b2 C Γ σ W1 H1 E D (s.ext x1) (by simpa using hq) (t.le x1.le))
/-- a target, a value that stands for good -/
theorem sx_asg {tg e : Expr} {g : WG} {we : WE} {pos : Pos} (hg : EG F tg g) (he : EX F e we) (hs : ∀ j : F.ι, swapsWithSole [tg] e pos.line (F.X j).env = pure false := by intro _; rfl) (hw : ∀ j : F.ι, swappedStores [tg] e (F.X j).env = pure none := by intro _; rfl)
    (h1 : ∀ j : F.ι, (assignEach [tg] (F.X j).env).map (·.2) = [assign tg (F.X j).env] := by intro _; rfl) : SX F rk (.Assign [tg] e pos) (wAsg g we) := by
  obtain ⟨t1, a1, a2⟩ := he
  obtain ⟨t2, b1, b2⟩ := hg
  refine ⟨_, fun j => ps_asg (a1 j) (b1 j) (hs j) (hw j) (h1 := h1 j), fun C Γ σ W H E D s hw t => ?_⟩
  refine a2 C Γ σ W H _ _ s hw fun v d W1 H1 hq x1 r => ?_
  exact b2 C Γ σ W1 H1 v d _ _ (s.ext x1) r hq fun Γ' σ' W2 H2 q x2 s2 => t.nx Γ' σ' W2 H2 q (x1.le.trans x2.le) s2
theorem loc_of {x : Str} (h : L2.Loc sc x) (j : F.ι) : L2.Loc (F.X j).env.scope x := by rw [F.sc']; exact h
theorem sx_set (i : Nat) {x : Str} {e : Expr} {we : WE} {pos px : Pos} (he : EX F e we) (hN : N[i]? = some x := by rfl) (hx : L2.Loc sc x := by first | exact Or.inl rfl | exact Or.inr rfl) (hs : ∀ j : F.ι, swapsWith e (some (.Name x px)) pos.line (F.X j).env = pure false := by intro _; rfl)
    (hf : (∀ j : F.ι, (F.X j).fn x = true) ∨ sc.names.lookup x = some .local := by first | exact Or.inr rfl | exact Or.inl (fun _ => rfl)) : SX F rk (.Assign [.Name x px] e pos) (wAsg (gNm i) we) := by
  obtain ⟨t1, a1, a2⟩ := he
  refine ⟨_, fun j => ps_set (i := i) (by rw [F.N']; exact F.nd) (by rw [F.N']; exact hN) (loc_of hx j) (a1 j) (hs j) (by rw [F.sc']; exact hf.imp (fun h => h j) id), fun C Γ σ W H E D s hw t => ?_⟩
  exact a2 C Γ σ W H _ _ s hw fun v d W1 H1 hq x1 r => t.nx _ _ W1 H1 hq x1.le ((s.ext x1).setSh r)
/-- a new value is the name's own -/
theorem own_step {Γ : Gam} {σ : L2.St} {W W1 : Wd} {H H1 : Hp} {i : Nat} {v : V} {d : D} (s : Sta K C Γ σ W H) (x : Ext W H W1 H1) (n : New K W H W1 H1 v d) : ∃ p, Sta K C (Γ.set i (celOf p d)) (σ.set i (some v)) W1 H1 := by
  have s1 := s.ext x
  rcases n with ⟨f, r⟩ | ⟨p, o, rfl, nH, nB, nP, ho, r⟩
  · refine ⟨0, ?_⟩
    unfold celOf
    rw [if_pos f]
    exact s1.setSh r
  · refine ⟨p, ?_⟩
    have f : d.flat = false := by cases r <;> rfl
    unfold celOf
    rw [if_neg (by rw [f]; decide)]
    refine s1.set ⟨rfl, s.glo.nn nH, nB, nP, o, ho, r⟩ fun a e q j b e' hj hij hab => ?_
    cases q
    obtain ⟨_, _, _, _, o', ho', _⟩ := s.cel j _ hj
    rw [← hab, nH] at ho'
    cases ho'
theorem sx_own (i : Nat) {x : Str} {e : Expr} {we : WE} {pos px : Pos} (he : EF F e we) (hN : N[i]? = some x := by rfl) (hx : L2.Loc sc x := by first | exact Or.inl rfl | exact Or.inr rfl) (hs : ∀ j : F.ι, swapsWith e (some (.Name x px)) pos.line (F.X j).env = pure false := by intro _; rfl)
    (hf : (∀ j : F.ι, (F.X j).fn x = true) ∨ sc.names.lookup x = some .local := by first | exact Or.inr rfl | exact Or.inl (fun _ => rfl)) : SX F rk (.Assign [.Name x px] e pos) (wOwnAsg i we) := by
  obtain ⟨t1, a1, a2⟩ := he
  refine ⟨_, fun j => ps_set (i := i) (by rw [F.N']; exact F.nd) (by rw [F.N']; exact hN) (loc_of hx j) (a1 j) (hs j) (by rw [F.sc']; exact hf.imp (fun h => h j) id), fun C Γ σ W H E D s hw t => ?_⟩
  refine a2 C Γ σ W H _ _ s hw fun v d W1 H1 hq x1 n => ?_
  obtain ⟨p, s'⟩ := own_step (i := i) s x1 n
  exact t.nx _ _ W1 H1 (hq p) x1.le s'
section
variable {keep : Gam → Gam → Prop} {elt tg iter : Expr} {ifs : List Expr} {scope : Scope} {own : List (Str × Nat)} {pos spos py : Pos} {wi : WI} {g : WG} {wt : WT} {we : WE} {y : Str}
/-- y = [..], the statement as one -/
theorem sx_comp_core (i : Nat) (hk : ∀ Γ, keep Γ Γ) (hi : EI F keep tg iter wi) (ok : blkC N sc scope own = true) (hg : EGo (F.blk scope) (own.map (·.2)) tg g) (ht : EPts (F.blk scope) ifs wt) (he : EX (F.blk scope) elt we)
    (hN : N[i]? = some y) (hyl : sc.names.lookup y = some .local) (hsw : ∀ j : F.ι, swapsWith (.ListComp elt [⟨tg, iter, ifs, 0⟩] scope pos) (some (.Name y py)) spos.line (F.X j).env = pure true)
    (hs : ∀ (j : F.ι) x, foldedSetIterable iter (F.X j).env x = pure x) : ∃ te : TE, (∀ j, PS (F.X j) (.Assign [.Name y py] (.ListComp elt [⟨tg, iter, ifs, 0⟩] scope pos) spos) (tAsg te (gName i))) ∧
      ∀ C Γ σ W H (q : D → Prop) (Q : VK), Sta K C Γ σ W H → wComp (own.map (·.2)) wi g wt we Γ q → (∀ v d W' H', q d → Ext W H W' H' → New K W H W' H' v d → Q v H') → te σ H Q := by
  obtain ⟨ti, i1, i2⟩ := hi
  obtain ⟨tgt, g1, g2⟩ := hg
  obtain ⟨tt, t1, t2⟩ := ht
  obtain ⟨te, e1, e2⟩ := he
  exact ⟨_, fun j => ps_setLc (i := i) (F.calm j) (by rw [F.N']; exact F.nd) (by rw [F.N']; exact hN) (by rw [F.sc']; exact hyl) (hsw j) (i1 j) (blk_ok ok j) (fun s H A cl fp => g1 (j, s, H, A, cl, fp)) (fun s H A cl fp => t1 (j, s, H, A, cl, fp)) (fun s H A cl fp => e1 (j, s, H, A, cl, fp)) (hs j), comp_core hk i2 g2 t2 e2⟩
theorem sw_ok (hy : sc.names.lookup y = some .local) (hl : (py.line == pos.line) = true) (ha : (scope.names.any fun (n, k) => n == y && (k == .local || k == .cell)) = false) (hkd : sc.kind = .function) (j : F.ι) {l : Nat} {gs : List Comprehension} :
    swapsWith (.ListComp elt gs scope pos) (some (.Name y py)) l (F.X j).env = pure true := sw_true (by rw [F.sc']; exact hkd) (by rw [F.sc']; exact hy) hl ha
theorem sx_ownC (i : Nat) (hk : ∀ Γ, keep Γ Γ) (hi : EI F keep tg iter wi) (ok : blkC N sc scope own = true) (hg : EGo (F.blk scope) (own.map (·.2)) tg g) (ht : EPts (F.blk scope) ifs wt) (he : EX (F.blk scope) elt we)
    (hN : N[i]? = some y := by rfl) (hyl : sc.names.lookup y = some .local := by rfl) (hl : (py.line == pos.line) = true := by rfl) (ha : (scope.names.any fun (n, k) => n == y && (k == .local || k == .cell)) = false := by decide +kernel) (hkd : sc.kind = .function := by rfl)
    (hs : ∀ (j : F.ι) x, foldedSetIterable iter (F.X j).env x = pure x := by intro _ _; rfl) : SX F rk (.Assign [.Name y py] (.ListComp elt [⟨tg, iter, ifs, 0⟩] scope pos) spos) (wOwnAsg i (wComp (own.map (·.2)) wi g wt we)) := by
  obtain ⟨te, h1, h2⟩ := sx_comp_core (spos := spos) (py := py) (pos := pos) i hk hi ok hg ht he hN hyl (fun j => sw_ok hyl hl ha hkd j) hs
  refine ⟨_, h1, fun C Γ σ W H E D s hw t => ?_⟩
  refine h2 C Γ σ W H _ _ s hw fun v d W1 H1 hq x1 n => ?_
  obtain ⟨p, s'⟩ := own_step (i := i) s x1 n
  exact t.nx _ _ W1 H1 (hq p) x1.le s'
theorem sx_setC (i : Nat) (hk : ∀ Γ, keep Γ Γ) (hi : EI F keep tg iter wi) (ok : blkC N sc scope own = true) (hg : EGo (F.blk scope) (own.map (·.2)) tg g) (ht : EPts (F.blk scope) ifs wt) (he : EX (F.blk scope) elt we)
    (hN : N[i]? = some y := by rfl) (hyl : sc.names.lookup y = some .local := by rfl) (hl : (py.line == pos.line) = true := by rfl) (ha : (scope.names.any fun (n, k) => n == y && (k == .local || k == .cell)) = false := by decide +kernel) (hkd : sc.kind = .function := by rfl)
    (hs : ∀ (j : F.ι) x, foldedSetIterable iter (F.X j).env x = pure x := by intro _ _; rfl) : SX F rk (.Assign [.Name y py] (.ListComp elt [⟨tg, iter, ifs, 0⟩] scope pos) spos) (wAsg (gNm i) (wComp (own.map (·.2)) wi g wt we)) := by
  obtain ⟨te, h1, h2⟩ := sx_comp_core (spos := spos) (py := py) (pos := pos) i hk hi ok hg ht he hN hyl (fun j => sw_ok hyl hl ha hkd j) hs
  refine ⟨_, h1, fun C Γ σ W H E D s hw t => ?_⟩
  refine h2 C Γ σ W H _ _ s hw fun v d W1 H1 hq x1 n => ?_
  obtain ⟨W'', x', r⟩ := n.rep x1
  exact t.nx _ _ W'' H1 hq x'.le ((s.ext x').setSh r)
end

/-! ### loops -/
theorem for_core {J : It} {ds : List D} {G : Wd → Hp → Prop} {g : WG} {b : WS} {keep : Gam → Prop} {tg : TG} {tb : TS} {Γ0 : Gam} {σ0 : L2.St} {W0 W1 : Wd} {H1 : Hp} {E : Ends} {D : DEnds}
    (wl : Wlk K J ds G) (st : ∀ Γ' σ' W' H', W1.Le W' → Sta K C Γ' σ' W' H' → keep Γ' → G W' H') (s : Sta K C Γ0 σ0 W1 H1) (l01 : W0.Le W1) (k0 : keep Γ0)
    (hg : ∀ C Γ σ W H v d (q : Gam → Prop) (Q : L2.St → Hp → Prop), Sta K C Γ σ W H → Rep K W v d → g d Γ q → (∀ Γ' σ' W' H', q Γ' → Ext W H W' H' → Sta K C Γ' σ' W' H' → Q σ' H') → tg v σ H Q)
    (hb : ∀ C Γ σ W H (E : Ends) (D : DEnds), Sta K C Γ σ W H → b D Γ → Tie (K := K) C rk W E D → tb E σ H)
    (hw : forD g b D keep ds Γ0) (t : Tie (K := K) C rk W0 E D) :
    ∃ Wi : Nat → Nat → L2.St → Hp → Prop, (∃ m, Wi 0 m σ0 H1) ∧ ∀ i m σ H, Wi i m σ H → (J.stop i H ∧ E.nx σ H) ∨ (J.go i H ∧ ∃ Nn : L2.St → Hp → Prop, (∀ σ' H', Nn σ' H' → ∃ m', m' < m ∧ Wi (i + 1) m' σ' H') ∧
      ∀ x H', J.yld i H x H' → tg x σ H' fun σ2 H2 => tb { E with nx := Nn, ct := Nn, bk := E.nx } σ2 H2) := by
  refine ⟨fun i m σ H => m = ds.length - i ∧ i ≤ ds.length ∧ ∃ Γ W, Sta K C Γ σ W H ∧ W1.Le W ∧ keep Γ ∧ forD g b D keep (ds.drop i) Γ, ⟨ds.length, by simp, Nat.zero_le _, Γ0, W1, s, .refl W1, k0, hw⟩, ?_⟩
  rintro i m σ H ⟨rfl, hi, Γ, W, sW, l, kk, hf⟩
  have gW := st Γ σ W H l sW kk
  by_cases hlt : i < ds.length
  · have hd : ds.drop i = ds[i] :: ds.drop (i + 1) := List.drop_eq_getElem_cons hlt
    rw [hd] at hf
    refine .inr ⟨wl.go i W H gW sW.holds hlt, fun σ' H' => ∃ Γ W, Sta K C Γ σ' W H' ∧ W1.Le W ∧ keep Γ ∧ forD g b D keep (ds.drop (i + 1)) Γ, fun σ' H' h' => ⟨ds.length - (i + 1), by omega, rfl, hlt, h'⟩, fun v H' y => ?_⟩
    obtain ⟨W2, x2, r2⟩ := wl.yld i _ W H v H' (List.getElem?_eq_getElem hlt) gW sW.holds y
    refine hg C Γ σ W2 H' v _ _ _ (sW.ext x2) r2 hf fun Γ3 σ3 W3 H3 hq3 x3 s3 => ?_
    have l3 : W1.Le W3 := (l.trans x2.le).trans x3.le
    refine hb C Γ3 σ3 W3 H3 _ _ s3 hq3 ⟨fun Γ' σ' W' H'' q l' s' => ⟨Γ', W', s', l3.trans l', q.1, q.2⟩, fun Γ' σ' W' H'' q l' s' => t.nx Γ' σ' W' H'' q (l01.trans (l3.trans l')) s', fun Γ' σ' W' H'' q l' s' => ⟨Γ', W', s', l3.trans l', q.1, q.2⟩, fun v d W' H'' q l' => t.rt v d W' H'' q (l01.trans (l3.trans l'))⟩
  · have e : i = ds.length := by omega
    subst e
    rw [List.drop_length] at hf
    exact .inl ⟨wl.stop W H gW sW.holds, t.nx Γ σ W H hf (l01.trans l) sW⟩
section
variable {tg iter : Expr} {body : List Stmt} {wi : WI} {g : WG} {b : WS} {pos : Pos}
theorem sx_for (hi : EI F keep0 tg iter wi) (hg : EG F tg g) (hb : SXs F rk body b) (hp : ∀ j : F.ι, PassesOwn (model (F.X j).prog (F.X j).w) (F.X j).A (F.X j).env (F.X j).xe := by intro _; exact PassesOwn.never)
    (hs : ∀ (j : F.ι) x, foldedSetIterable iter (F.X j).env x = pure x := by intro _ _; rfl) : SX F rk (.For tg iter body [] pos) (wFor wi g b) := by
  obtain ⟨ti, i1, i2⟩ := hi
  obtain ⟨tgt, g1, g2⟩ := hg
  obtain ⟨tb, b1, b2⟩ := hb
  refine ⟨_, fun j => ps_for (hp j) (F.calm j) (i1 j) (g1 j) (b1 j) (hs j), fun C Γ σ W H E D s hw t => ?_⟩
  refine i2 C Γ σ W H _ _ s hw fun J ds W1 H1 G hq x wl st => ?_
  exact for_core (keep := fun _ => True) wl (fun Γ' σ' W' H' l s' _ => st Γ' σ' W' H' l s' trivial) (s.ext x) x.le trivial g2 b2 hq t
theorem sx_forOw (i : Nat) (hi : EI F (keepAt i) tg iter wi) (hg : EG F tg g) (hb : SXs F rk body b) (hp : ∀ j : F.ι, PassesOwn (model (F.X j).prog (F.X j).w) (F.X j).A (F.X j).env (F.X j).xe := by intro _; exact PassesOwn.never)
    (hs : ∀ (j : F.ι) x, foldedSetIterable iter (F.X j).env x = pure x := by intro _ _; rfl) : SX F rk (.For tg iter body [] pos) (wForOw i wi g b) := by
  obtain ⟨ti, i1, i2⟩ := hi
  obtain ⟨tgt, g1, g2⟩ := hg
  obtain ⟨tb, b1, b2⟩ := hb
  refine ⟨_, fun j => ps_for (hp j) (F.calm j) (i1 j) (g1 j) (b1 j) (hs j), fun C Γ σ W H E D s hw t => ?_⟩
  refine i2 C Γ σ W H _ _ s hw fun J ds W1 H1 G hq x wl st => ?_
  exact for_core (keep := keepAt i Γ) wl st (s.ext x) x.le rfl g2 b2 hq t
theorem sx_while {c : Expr} {wt : WT} (hc : ET F c wt) (hb : SXs F rk body b) (hp : ∀ j : F.ι, PassesOwn (model (F.X j).prog (F.X j).w) (F.X j).A (F.X j).env (F.X j).xe := by intro _; exact PassesOwn.never) : SX F rk (.While c body [] pos) (wWhile wt b) := by
  obtain ⟨tt, c1, c2⟩ := hc
  obtain ⟨tb, b1, b2⟩ := hb
  refine ⟨_, fun j => ps_while (hp j) (c1 j) (b1 j), fun C Γ σ W H E D s hw t => ?_⟩
  obtain ⟨Wi, ⟨m0, w0⟩, turn⟩ := hw
  refine ⟨fun m σ H => ∃ Γ W', Sta K C Γ σ W' H ∧ W.Le W' ∧ Wi m Γ, ⟨m0, Γ, W, s, .refl W, w0⟩, ?_⟩
  rintro m σ1 H1 ⟨Γ1, W1, s1, l1, w1⟩
  refine c2 C Γ1 σ1 W1 H1 _ _ s1 (turn m Γ1 w1) fun x W2 H2 hq x2 => ?_
  cases x with
  | true =>
    refine iteT ⟨fun σ' H' => ∃ m', m' < m ∧ ∃ Γ W', Sta K C Γ σ' W' H' ∧ W.Le W' ∧ Wi m' Γ, fun σ' H' h => h, ?_⟩
    have l2 := l1.trans x2.le
    refine b2 C Γ1 σ1 W2 H2 _ { nx := fun Γ' => ∃ m', m' < m ∧ Wi m' Γ', rt := D.rt, bk := D.nx, ct := fun Γ' => ∃ m', m' < m ∧ Wi m' Γ' } (s1.ext x2) (iteT' hq) ⟨fun Γ' σ' W' H' q l' s' => ?_, fun Γ' σ' W' H' q l' s' => t.nx Γ' σ' W' H' q (l2.trans l') s', fun Γ' σ' W' H' q l' s' => ?_, fun v d W' H' q l' => t.rt v d W' H' q (l2.trans l')⟩
    · obtain ⟨m', hm, q⟩ := q
      exact ⟨m', hm, Γ', W', s', l2.trans l', q⟩
    · obtain ⟨m', hm, q⟩ := q
      exact ⟨m', hm, Γ', W', s', l2.trans l', q⟩
  | false => exact iteF (t.nx Γ1 σ1 W2 H2 (iteF' hq) (l1.trans x2.le) (s1.ext x2))
end
end
end
end DL

/-! DMut: own lists and dicts are changed. -/
namespace DL
open PySem PySem.Spec PyProof.Rows L2
variable [WW]
section
variable {P : Program} {w : World} {K : PySem.W.Frag} {mg : Str → Option Value} {base : Heap} {N : List Str} {sc : Scope} {k : Nat}
variable {F : Fam P w K mg base N sc k} {C : Ctx} {rk : RK}

theorem RepO.nofrz {W : Wd} {o : HO} {d : D} (r : RepO K W o d) {ob : Obj} {u : HO} : o ≠ .frz ob u := by
  cases r <;> exact fun e => nomatch e
/-- a name's own object is changed -/
theorem Sta.mut {Γ : Gam} {σ : L2.St} {W : Wd} {H : Hp} (s : Sta K C Γ σ W H) {i a : Nat} {d d' : D} {o' : HO} (hi : Γ[i]? = some (.ow a d)) (r' : RepO K W o' d') : Sta K C (Γ.set i (.ow a d')) σ W (L2.upd H a o') := by
  obtain ⟨e1, h0, b, p, o, ho, r⟩ := s.cel i _ hi
  have ne : ∀ x u, C.H0 x = some u → x ≠ a := fun x u e z => by
    rw [z] at e
    exact absurd (e.symm.trans h0) (fun q => nomatch q)
  have hol : Holds W (L2.upd H a o') := by
    refine ⟨fun x u e => ?_, fun x q => ?_⟩
    · have hx : x ≠ a := fun z => by rw [z] at e; exact absurd (e.symm.trans b) (fun q => nomatch q)
      rcases s.holds.b x u e with q | ⟨m, ob, q⟩
      · exact .inl (by rw [L2.upd_ne hx]; exact q)
      · exact .inr ⟨m, ob, by rw [L2.upd_ne hx]; exact q⟩
    · have hx : x ≠ a := fun z => p (by rw [← z]; exact q)
      obtain ⟨⟨y1, y2, y3, e, rr⟩, bb⟩ := s.holds.p x q
      exact ⟨⟨y1, y2, y3, by rw [L2.upd_ne hx]; exact e, rr⟩, bb⟩
  refine ⟨⟨s.glo.le, s.glo.nb, s.glo.np, hol, s.glo.h0, fun x u e q => ?_, fun y hy => ?_, fun x u e => ?_⟩, by rw [List.length_set]; exact s.len, fun j c e => ?_, fun j l x y d1 d2 h1 h2 h3 => ?_⟩
  · rcases s.glo.fr x u e q with z | z
    · exact .inl (by rw [L2.upd_ne (ne x u e)]; exact z)
    · exact .inr z
  · obtain ⟨q1, q2⟩ := s.glo.lk y hy
    have hx : y.1 ≠ a := fun z => by
      rw [z] at q1
      exact r.nofrz (Option.some.inj (ho.symm.trans q1))
    exact ⟨by rw [L2.upd_ne hx]; exact q1, q2⟩
  · rcases s.glo.ex x u e with q | q
    · exact .inl (by rw [L2.upd_ne fun z => by rw [z, b] at e; cases e]; exact q)
    · exact .inr q
  · by_cases hj : j = i
    · subst hj
      have hl : j < Γ.length := (List.getElem?_eq_some_iff.mp hi).1
      rw [List.getElem?_set_self hl] at e
      cases e
      exact ⟨e1, h0, b, p, o', L2.upd_same, r'⟩
    · rw [List.getElem?_set_ne (Ne.symm hj)] at e
      have q := s.cel j c e
      cases c with
      | no => trivial
      | sh d => exact q
      | bo d => exact q
      | ow y d1 =>
        obtain ⟨q1, q2, q3, q4, u, q5, q6⟩ := q
        exact ⟨q1, q2, q3, q4, u, by rw [L2.upd_ne (s.ap j i y a d1 d e hi hj)]; exact q5, q6⟩
  · have at_ : ∀ (j x : Nat) (d1 : D), (List.set Γ i (Cel.ow a d'))[j]? = some (Cel.ow x d1) → ∃ d2 : D, Γ[j]? = some (Cel.ow x d2) := fun j x d1 h => by
      by_cases hj : j = i
      · subst hj
        have hl : j < Γ.length := (List.getElem?_eq_some_iff.mp hi).1
        rw [List.getElem?_set_self hl] at h
        cases h
        exact ⟨d, hi⟩
      · rw [List.getElem?_set_ne (Ne.symm hj)] at h
        exact ⟨d1, h⟩
    obtain ⟨z1, g1⟩ := at_ j x d1 h1
    obtain ⟨z2, g2⟩ := at_ l y d2 h2
    exact s.ap j l x y z1 z2 g1 g2 h3
/-- an own object is changed no more -/
theorem Sta.frz {Γ : Gam} {σ : L2.St} {W : Wd} {H : Hp} (s : Sta K C Γ σ W H) (i : Nat) : ∃ W', W.Le W' ∧ Sta K C (Γ.set i (frz (Γ[i]?.getD .no))) σ W' H := by
  cases e : Γ[i]? with
  | none =>
    have hl : Γ.length ≤ i := List.getElem?_eq_none_iff.mp e
    refine ⟨W, .refl W, ?_⟩
    rw [List.set_eq_of_length_le hl]
    exact s
  | some c =>
    have hl : i < Γ.length := (List.getElem?_eq_some_iff.mp e).1
    have same : ∀ c' : Cel, DL.frz c' = c → c' = c → Γ.set i (DL.frz c') = Γ := fun c' h0 h => by
      rw [h0]
      refine List.ext_getElem? fun j => ?_
      by_cases hj : j = i
      · subst hj; rw [List.getElem?_set_self hl, e]
      · rw [List.getElem?_set_ne (Ne.symm hj)]
    cases c with
    | no => exact ⟨W, .refl W, by show Sta K C (Γ.set i (DL.frz (.no))) σ W H; rw [same _ rfl rfl]; exact s⟩
    | sh d => exact ⟨W, .refl W, by show Sta K C (Γ.set i (DL.frz (.sh d))) σ W H; rw [same _ rfl rfl]; exact s⟩
    | bo d => exact ⟨W, .refl W, by show Sta K C (Γ.set i (DL.frz (.bo d))) σ W H; rw [same _ rfl rfl]; exact s⟩
    | ow a d =>
      obtain ⟨e1, h0, b, p, o, ho, r⟩ := s.cel i _ e
      have l : W.Le (W.put a o) := Wd.put_le b
      refine ⟨W.put a o, l, ?_⟩
      show Sta K C (Γ.set i (.sh d)) σ (W.put a o) H
      have s1 : Sta K C (Γ.set i .no) σ (W.put a o) H := by
        refine ⟨⟨s.glo.le.trans l, fun x u q => ?_, s.glo.np, holds_put s.holds ho p, s.glo.h0, s.glo.fr, s.glo.lk, fun x u q => ?_⟩, by rw [List.length_set]; exact s.len, fun j c q => ?_, fun j m x y d1 d2 h1 h2 h3 => ?_⟩
        · have q : L2.upd W.B a o x = some u := q
          by_cases hx : x = a
          · rw [hx]; exact .inr h0
          · rw [L2.upd_ne hx] at q
            exact s.glo.nb x u q
        · have q : L2.upd W.B a o x = some u := q
          by_cases hx : x = a
          · rw [hx, L2.upd_same] at q
            cases q
            rw [hx]
            exact .inl ho
          · rw [L2.upd_ne hx] at q
            exact s.glo.ex x u q
        · by_cases hj : j = i
          · subst hj
            rw [List.getElem?_set_self hl] at q
            cases q
            trivial
          · rw [List.getElem?_set_ne (Ne.symm hj)] at q
            have z := s.cel j c q
            cases c with
            | no => trivial
            | sh d => obtain ⟨v, z1, z2⟩ := z; exact ⟨v, z1, z2.le l⟩
            | bo d =>
              obtain ⟨v, z1, z2 | ⟨x, u, z3, z4, z5, z6⟩⟩ := z
              · exact ⟨v, z1, .inl (z2.le l)⟩
              · exact ⟨v, z1, .inr ⟨x, u, z3, z4, z5, z6.le l⟩⟩
            | ow y d1 =>
              obtain ⟨q1, q2, q3, q4, u, q5, q6⟩ := z
              refine ⟨q1, q2, ?_, q4, u, q5, q6.le l⟩
              show L2.upd W.B a o y = none
              rw [L2.upd_ne (s.ap j i y a d1 d q e hj)]
              exact q3
        · by_cases hj : j = i
          · subst hj
            rw [List.getElem?_set_self hl] at h1
            cases h1
          · by_cases hm : m = i
            · subst hm
              rw [List.getElem?_set_self hl] at h2
              cases h2
            · rw [List.getElem?_set_ne (Ne.symm hj)] at h1
              rw [List.getElem?_set_ne (Ne.symm hm)] at h2
              exact s.ap j m x y d1 d2 h1 h2 h3
      have s2 := s1.cell (i := i) (c := .sh d) (fun _ _ => ⟨_, e1, r.put b⟩) fun _ _ q => nomatch q
      rw [List.set_set] at s2
      exact s2
theorem sx_frz (i : Nat) {st : Stmt} {ws : WS} (h : SX F rk st ws) : SX F rk st (wFrz i ws) := by
  obtain ⟨t1, a1, a2⟩ := h
  refine ⟨t1, a1, fun C Γ σ W H E D s hw t => ?_⟩
  obtain ⟨W', l, s'⟩ := s.frz i
  exact a2 C _ σ W' H E D s' hw (t.le l)

/-! ### methods of lists, as statements -/
section
variable {x : Str} {px pos apos cpos : Pos} {e e2 : Expr} {es : List Expr} {we we2 : WE} {name : Str} {id : String}
theorem pe_lmt {ta : TA} {r : V → List V → Hp → VK → Prop} (i : Nat) (slot : Slot "list" name id) (hty : typeOf (.builtin id) = pure (.type "method_descriptor")) (hm : ∀ j : F.ι, MtR (F.X j) id r) (ha : ∀ j, PA (F.X j) (e :: es) ta)
    (hN : N[i]? = some x) (hv : Vis sc x) (hd : (x == ("__debug__" : Str)) = false) (hcd : (x == ("__classdict__" : Str)) = false)
    (hbase : ∀ j : F.ι, attributeBase (.Name x px) name (F.X j).env (eval (.Name x px) (F.X j).env) = eval (.Name x px) (F.X j).env)
    (hfew : ∀ j : F.ι, ((backTo cpos (starEach (e :: es) (F.X j).env)).all (fun x => !x.1) && (backToKw cpos (keywordEach [] (F.X j).env)).all (fun x => x.1.isSome)
      && decide ((e :: es).length + ([] : List Keyword).length + (if ([] : List Keyword).isEmpty then 0 else 1) < 30)) = true) (hline : (apos.endLine == cpos.line) = true)
    (hs : ∀ j : F.ι, starEach (e :: es) (F.X j).env = (false, eval e (F.X j).env) :: starEach es (F.X j).env) (hpl : ∀ j : F.ι, (backTo cpos (starEach es (F.X j).env)).any (·.1) = false) (j : F.ι) :
    PE (F.X j) (.Call (.Attribute (.Name x px) name apos) (e :: es) [] cpos) (tBM K "list" r (tVar i) ta) := by
  have := pe_bm (T := "list") PySem.F.plainAttrs_list slot hty (hm j) (pe_slot (F := F) (pos := px) hN hv hd hcd j) (ha j) (hbase j) (hfew j) hline (hs j) (hpl j)
  rw [F.K'] at this
  exact this
theorem own_lst {Γ : Gam} {σ : L2.St} {W : Wd} {H : Hp} (s : Sta K C Γ σ W H) {i : Nat} {q : Nat → List D → Prop} (h : cellOw Γ[i]? fun p x => kLst x fun xs => q p xs) :
    ∃ (a : Addr) (xs : List D) (vs : List V), Γ[i]? = some (.ow a (.lst xs)) ∧ σ[i]? = some (some (.ref a)) ∧ ¬ W.P a ∧ H a = some (.lst vs) ∧ Reps K W vs xs ∧ q a xs := by
  obtain ⟨a, d, o, e, e1, _, _, p, e2, r, hq⟩ := s.own h
  obtain ⟨xs, rfl, hq⟩ := kLst_of hq
  cases r with
  | lst r => exact ⟨a, xs, _, e, e1, p, e2, r, hq⟩
theorem sx_append (i : Nat) (he : EX F e we) (hN : N[i]? = some x := by rfl) (hv : Vis sc x := by first | exact Or.inl rfl | exact Or.inr (Or.inl rfl) | exact Or.inr (Or.inr rfl)) (hd : (x == ("__debug__" : Str)) = false := by decide) (hcd : (x == ("__classdict__" : Str)) = false := by decide)
    (hbase : ∀ j : F.ι, attributeBase (.Name x px) "append" (F.X j).env (eval (.Name x px) (F.X j).env) = eval (.Name x px) (F.X j).env := by intro _; rfl)
    (hfew : ∀ j : F.ι, ((backTo cpos (starEach [e] (F.X j).env)).all (fun x => !x.1) && (backToKw cpos (keywordEach [] (F.X j).env)).all (fun x => x.1.isSome)
      && decide ([e].length + ([] : List Keyword).length + (if ([] : List Keyword).isEmpty then 0 else 1) < 30)) = true := by intro _; rfl) (hline : (apos.endLine == cpos.line) = true := by rfl)
    (hs : ∀ j : F.ι, starEach [e] (F.X j).env = (false, eval e (F.X j).env) :: starEach [] (F.X j).env := by intro _; rfl) (hpl : ∀ j : F.ι, (backTo cpos (starEach [] (F.X j).env)).any (·.1) = false := by intro _; rfl)
    (hsw : ∀ j : F.ι, swapsWith (.Call (.Attribute (.Name x px) "append" apos) [e] [] cpos) none pos.line (F.X j).env = pure false := by intro _; rfl) :
    SX F rk (.Expr (.Call (.Attribute (.Name x px) "append" apos) [e] [] cpos) pos) (wAppend i we) := by
  obtain ⟨t1, a1, a2⟩ := he
  refine ⟨_, fun j => ps_expr (pe_lmt (F := F) i PySem.F.slot_list_append PySem.F.type_list_append (fun j => mt_append) (fun j => pa_cons (a1 j) pa_nil (hs j)) hN hv hd hcd hbase hfew hline hs hpl j) (hsw j), fun C Γ σ W H E D s hw t => ?_⟩
  obtain ⟨a, xs, vs, e0, e1, p, e2, r, hq⟩ := own_lst s hw
  refine ⟨_, e1, .inl ⟨rfl, _, .of e2⟩, a2 C Γ σ W H _ _ s hq fun v d W' H' hq x' r' => ?_⟩
  have e3 := x'.fr _ _ e2 p
  refine ⟨a, vs, v, rfl, rfl, e3, by rw [r.length, ← SZ_eq]; exact hq.1, ?_⟩
  exact t.nx _ _ W' _ hq.2 x'.le ((s.ext x').mut e0 (.lst ((r.le x'.le).append (.cons r' .nil))))
theorem sx_insert (i : Nat) (he : EX F e we) (he2 : EX F e2 we2) (hN : N[i]? = some x := by rfl) (hv : Vis sc x := by first | exact Or.inl rfl | exact Or.inr (Or.inl rfl) | exact Or.inr (Or.inr rfl)) (hd : (x == ("__debug__" : Str)) = false := by decide) (hcd : (x == ("__classdict__" : Str)) = false := by decide)
    (hbase : ∀ j : F.ι, attributeBase (.Name x px) "insert" (F.X j).env (eval (.Name x px) (F.X j).env) = eval (.Name x px) (F.X j).env := by intro _; rfl)
    (hfew : ∀ j : F.ι, ((backTo cpos (starEach [e, e2] (F.X j).env)).all (fun x => !x.1) && (backToKw cpos (keywordEach [] (F.X j).env)).all (fun x => x.1.isSome)
      && decide ([e, e2].length + ([] : List Keyword).length + (if ([] : List Keyword).isEmpty then 0 else 1) < 30)) = true := by intro _; rfl) (hline : (apos.endLine == cpos.line) = true := by rfl)
    (hs : ∀ j : F.ι, starEach [e, e2] (F.X j).env = (false, eval e (F.X j).env) :: starEach [e2] (F.X j).env := by intro _; rfl) (hs2 : ∀ j : F.ι, starEach [e2] (F.X j).env = (false, eval e2 (F.X j).env) :: starEach [] (F.X j).env := by intro _; rfl) (hpl : ∀ j : F.ι, (backTo cpos (starEach [e2] (F.X j).env)).any (·.1) = false := by intro _; rfl)
    (hsw : ∀ j : F.ι, swapsWith (.Call (.Attribute (.Name x px) "insert" apos) [e, e2] [] cpos) none pos.line (F.X j).env = pure false := by intro _; rfl) :
    SX F rk (.Expr (.Call (.Attribute (.Name x px) "insert" apos) [e, e2] [] cpos) pos) (wInsert i we we2) := by
  obtain ⟨t1, a1, a2⟩ := he
  obtain ⟨t2, b1, b2⟩ := he2
  refine ⟨_, fun j => ps_expr (pe_lmt (F := F) i PySem.F.slot_list_insert PySem.F.type_list_insert (fun j => mt_insert) (fun j => pa_cons (a1 j) (pa_cons (b1 j) pa_nil (hs2 j)) (hs j)) hN hv hd hcd hbase hfew hline hs hpl j) (hsw j), fun C Γ σ W H E D s hw t => ?_⟩
  obtain ⟨a, xs, vs, e0, e1, p, e2', r, hq⟩ := own_lst s hw
  refine ⟨_, e1, .inl ⟨rfl, _, .of e2'⟩, a2 C Γ σ W H _ _ s hq fun v d W' H' hq x' r' => ?_⟩
  refine b2 C Γ σ W' H' _ _ (s.ext x') hq fun u d2 W2 H2 hq2 x2 r2 => ?_
  obtain ⟨jn, rfl, hc, hq2⟩ := kInt_of hq2
  have x12 := x'.trans s.holds x2
  have e3 := x12.fr _ _ e2' p
  have e4 : v = .int jn := by cases r'; rfl
  subst e4
  refine ⟨a, vs, jn, u, rfl, rfl, e3, by rw [r.length, ← SZ_eq]; exact hc.1, hc.2.1, hc.2.2, ?_⟩
  exact t.nx _ _ W2 _ hq2 x12.le ((s.ext x12).mut e0 (.lst ((((r.le x12.le).take _).append (.cons r2 .nil)).append ((r.le x12.le).drop _))))
theorem sx_extend (i : Nat) (he : EX F e we) (hN : N[i]? = some x := by rfl) (hv : Vis sc x := by first | exact Or.inl rfl | exact Or.inr (Or.inl rfl) | exact Or.inr (Or.inr rfl)) (hd : (x == ("__debug__" : Str)) = false := by decide) (hcd : (x == ("__classdict__" : Str)) = false := by decide)
    (hbase : ∀ j : F.ι, attributeBase (.Name x px) "extend" (F.X j).env (eval (.Name x px) (F.X j).env) = eval (.Name x px) (F.X j).env := by intro _; rfl)
    (hfew : ∀ j : F.ι, ((backTo cpos (starEach [e] (F.X j).env)).all (fun x => !x.1) && (backToKw cpos (keywordEach [] (F.X j).env)).all (fun x => x.1.isSome)
      && decide ([e].length + ([] : List Keyword).length + (if ([] : List Keyword).isEmpty then 0 else 1) < 30)) = true := by intro _; rfl) (hline : (apos.endLine == cpos.line) = true := by rfl)
    (hs : ∀ j : F.ι, starEach [e] (F.X j).env = (false, eval e (F.X j).env) :: starEach [] (F.X j).env := by intro _; rfl) (hpl : ∀ j : F.ι, (backTo cpos (starEach [] (F.X j).env)).any (·.1) = false := by intro _; rfl)
    (hsw : ∀ j : F.ι, swapsWith (.Call (.Attribute (.Name x px) "extend" apos) [e] [] cpos) none pos.line (F.X j).env = pure false := by intro _; rfl) :
    SX F rk (.Expr (.Call (.Attribute (.Name x px) "extend" apos) [e] [] cpos) pos) (wExtend i we) := by
  obtain ⟨t1, a1, a2⟩ := he
  refine ⟨_, fun j => ps_expr (pe_lmt (F := F) i PySem.F.slot_list_extend PySem.F.type_list_extend (fun j => mt_extend) (fun j => pa_cons (a1 j) pa_nil (hs j)) hN hv hd hcd hbase hfew hline hs hpl j) (hsw j), fun C Γ σ W H E D s hw t => ?_⟩
  obtain ⟨a, xs, vs, e0, e1, p, e2, r, hq⟩ := own_lst s hw
  refine ⟨_, e1, .inl ⟨rfl, _, .of e2⟩, a2 C Γ σ W H _ _ s hq fun v d W' H' hq x' r' => ?_⟩
  obtain ⟨ys, rfl, hl, hq⟩ := kLst_of hq
  have e3 := x'.fr _ _ e2 p
  cases r' with
  | lst qb rb =>
    refine ⟨a, _, vs, _, rfl, rfl, e3, (x'.holds.b _ _ qb).lst, by rw [r.length, rb.length, ← SZ_eq]; exact hl, ?_⟩
    exact t.nx _ _ W' _ hq x'.le ((s.ext x').mut e0 (.lst ((r.le x'.le).append rb)))
theorem sx_clear (i : Nat) (hN : N[i]? = some x := by rfl) (hv : Vis sc x := by first | exact Or.inl rfl | exact Or.inr (Or.inl rfl) | exact Or.inr (Or.inr rfl)) (hd : (x == ("__debug__" : Str)) = false := by decide) (hcd : (x == ("__classdict__" : Str)) = false := by decide)
    (hbase : ∀ j : F.ι, attributeBase (.Name x px) "clear" (F.X j).env (eval (.Name x px) (F.X j).env) = eval (.Name x px) (F.X j).env := by intro _; rfl) (hline : (apos.endLine == cpos.line) = true := by rfl)
    (hsw : ∀ j : F.ι, swapsWith (.Call (.Attribute (.Name x px) "clear" apos) [] [] cpos) none pos.line (F.X j).env = pure false := by intro _; rfl) :
    SX F rk (.Expr (.Call (.Attribute (.Name x px) "clear" apos) [] [] cpos) pos) (wClear i) := by
  refine ⟨tDrop (tBM0 K "list" rClear (tVar i)), fun j => ps_expr (by
    have := pe_bm0 (T := "list") PySem.F.plainAttrs_list PySem.F.slot_list_clear PySem.F.type_list_clear mt_clear (pe_slot (F := F) (pos := px) hN hv hd hcd j) (hbase j) hline
    rw [F.K'] at this
    exact this) (hsw j), fun C Γ σ W H E D s hw t => ?_⟩
  obtain ⟨a, xs, vs, e0, e1, p, e2, r, hq⟩ := own_lst s hw
  exact ⟨_, e1, .inl ⟨rfl, _, .of e2⟩, a, vs, rfl, rfl, e2, t.nx _ _ W _ hq (.refl W) (s.mut e0 (.lst .nil))⟩
theorem sx_popTo (jj i : Nat) {y : Str} {py : Pos} (hNy : N[jj]? = some y := by rfl) (hx : L2.Loc sc y := by first | exact Or.inl rfl | exact Or.inr rfl) (hf : (∀ j : F.ι, (F.X j).fn y = true) ∨ sc.names.lookup y = some .local := by first | exact Or.inr rfl | exact Or.inl (fun _ => rfl))
    (hN : N[i]? = some x := by rfl) (hv : Vis sc x := by first | exact Or.inl rfl | exact Or.inr (Or.inl rfl) | exact Or.inr (Or.inr rfl)) (hd : (x == ("__debug__" : Str)) = false := by decide) (hcd : (x == ("__classdict__" : Str)) = false := by decide)
    (hbase : ∀ j : F.ι, attributeBase (.Name x px) "pop" (F.X j).env (eval (.Name x px) (F.X j).env) = eval (.Name x px) (F.X j).env := by intro _; rfl) (hline : (apos.endLine == cpos.line) = true := by rfl)
    (hsw : ∀ j : F.ι, swapsWith (.Call (.Attribute (.Name x px) "pop" apos) [] [] cpos) (some (.Name y py)) pos.line (F.X j).env = pure false := by intro _; rfl) :
    SX F rk (.Assign [.Name y py] (.Call (.Attribute (.Name x px) "pop" apos) [] [] cpos) pos) (wPopTo jj i) := by
  refine ⟨tAsg (tBM0 K "list" rPop (tVar i)) (gName jj), fun j => ps_set (i := jj) (by rw [F.N']; exact F.nd) (by rw [F.N']; exact hNy) (loc_of hx j) (by
    have := pe_bm0 (T := "list") PySem.F.plainAttrs_list PySem.F.slot_list_pop PySem.F.type_list_pop mt_pop (pe_slot (F := F) (pos := px) hN hv hd hcd j) (hbase j) hline
    rw [F.K'] at this
    exact this) (hsw j) (by rw [F.sc']; exact hf.imp (fun h => h j) id), fun C Γ σ W H E D s hw t => ?_⟩
  obtain ⟨a, xs, vs, e0, e1, p, e2, r, v, hv', hq⟩ := own_lst s hw
  obtain ⟨u, hu, ru⟩ := r.get hv'
  refine ⟨_, e1, .inl ⟨rfl, _, .of e2⟩, a, vs, u, rfl, rfl, e2, by rw [r.length]; exact hu, ?_⟩
  exact t.nx _ _ W _ hq (.refl W) ((s.mut e0 (.lst r.dropLast)).setSh ru)
end

/-! ### x[a] = b -/
theorem PSet.or {X : Cx} {t t' : TSet} (h : PSet X t) (h' : PSet X t') : PSet X (fun o i v H Q => t o i v H Q ∨ t' o i v H Q) := by
  intro pins s σ H o i v ov iv u Q I r1 r2 r3 q
  rcases q with q | q
  · exact h pins s σ H o i v ov iv u Q I r1 r2 r3 q
  · exact h' pins s σ H o i v ov iv u Q I r1 r2 r3 q
theorem set_dict {X : Cx} (hu : X.A.units + 1 < cLine) : PSet X (fun o i v H Q => ∃ a H', o = .ref a ∧ DPut H a i v H' ∧ Q H') := by
  intro pins s σ H o i v ov iv u Q I r1 r2 r3 q
  obtain ⟨a, H', rfl, g, q⟩ := q
  cases r1
  exact d_setItem hu I g r2 r3 fun s' I' => ⟨H', I', q⟩
theorem set_nest' [Lk w] (j : F.ι) : PSet (F.X j) (rNSet K) := by
  haveI : Lk (F.X j).w := by rw [F.w']; infer_instance
  have := set_nest (X := F.X j) (nroom (F.room j))
  rw [F.K'] at this
  exact this
section
variable {x : Str} {px pos sp : Pos} {e a : Expr} {we wa : WE}
theorem sx_setIx [Lk w] (i : Nat) (ha : EX F a wa) (he : EX F e we) (hN : N[i]? = some x := by rfl) (hv : Vis sc x := by first | exact Or.inl rfl | exact Or.inr (Or.inl rfl) | exact Or.inr (Or.inr rfl)) (hd : (x == ("__debug__" : Str)) = false := by decide) (hcd : (x == ("__classdict__" : Str)) = false := by decide)
    (hs : ∀ j : F.ι, swapsWithSole [.Subscript (.Name x px) a sp] e pos.line (F.X j).env = pure false := by intro _; rfl) (hw : ∀ j : F.ι, swappedStores [.Subscript (.Name x px) a sp] e (F.X j).env = pure none := by intro _; rfl)
    (h1 : ∀ j : F.ι, (assignEach [.Subscript (.Name x px) a sp] (F.X j).env).map (·.2) = [assign (.Subscript (.Name x px) a sp) (F.X j).env] := by intro _; rfl)
    (hg : ∀ (j : F.ι) v, assign (.Subscript (.Name x px) a sp) (F.X j).env v = (do
      let ov ← holding [v] (eval (.Name x px) (F.X j).env)
      let iv ← holding [v, ov] (eval a (F.X j).env)
      standAt sp
      holding [v, ov, iv] (setItem ov iv v)
      release [v, ov, iv] []) := by intro _ _; rfl) :
    SX F rk (.Assign [.Subscript (.Name x px) a sp] e pos) (wSetIx i wa we) := by
  obtain ⟨t1, a1, a2⟩ := ha
  obtain ⟨t2, b1, b2⟩ := he
  refine ⟨_, fun j => ps_asg (b1 j) (pg_sub (pe_slot (F := F) (pos := px) hN hv hd hcd j) (a1 j) (PSet.or set_list (PSet.or (set_dict (hu1 (F.room j))) (set_nest' j))) (ha := hg j)) (hs j) (hw j) (h1 := h1 j), fun C Γ σ W H E D s hw t => ?_⟩
  refine b2 C Γ σ W H _ _ s hw fun v d W1 H1 hq x1 r1 => ?_
  have s1 := s.ext x1
  obtain ⟨p, z, o, e0, e1, _, _, np, e2, r, hq⟩ := s1.own hq
  refine ⟨_, e1, a2 C Γ σ W1 H1 _ _ s1 hq fun u q W2 H2 hq x2 r2 => ?_⟩
  have s2 := s1.ext x2
  have e3 := x2.fr _ _ e2 np
  cases r with
  | lst r =>
    obtain ⟨jn, rfl, n, hn, hq⟩ := kInt_of hq
    have e4 : u = .int jn := by cases r2; rfl
    subst e4
    refine .inl ⟨p, _, jn, n, rfl, rfl, e3, ?_, ?_⟩
    · rw [r.length]; exact hn
    · exact t.nx _ _ W2 _ hq (x1.le.trans x2.le) (s2.mut e0 (.lst ((r.le x2.le).set (r1.le x2.le) n)))
  | dk r =>
    obtain ⟨hk, hq⟩ := hq
    obtain ⟨kk, rfl, e⟩ := key_of r2 hk.1
    subst e
    refine .inr (.inl ⟨p, _, rfl, .k e3 (by rw [r.length, ← SZ_eq]; exact hk.2), ?_⟩)
    exact t.nx _ _ W2 _ hq (x1.le.trans x2.le) (s2.mut e0 (.dk ((r.le x2.le).put kk (r1.le x2.le))))
  | dn r =>
    obtain ⟨hk, hq⟩ := hq
    obtain ⟨kp, rfl⟩ := key_ref r2 hk.1
    have r' := r.le x2.le
    refine .inr (.inr ⟨W2, p, _, kp, _, _, q, rfl, rfl, x2.holds, e3, r', r2, hk.1, by rw [r.length, ← SZ_eq]; exact hk.2, ?_⟩)
    exact t.nx _ _ W2 _ hq (x1.le.trans x2.le) (s2.mut e0 (.dn (r'.put2 hk.1 r2 (r1.le x2.le))))
theorem ef_newD {pos : Pos} : EF F (.Dict [] [] pos) wNewD := by
  refine ⟨_, fun j => pe_dnewK, fun C Γ σ W H q Q s hw c p hp => ?_⟩
  obtain ⟨x, n⟩ := new_obj (o := .dK []) (d := .dic []) s.holds (.dk .nil) hp
  exact c _ _ W _ hw x n
/-! ### dicts with tuple keys -/
theorem ef_newT {pos : Pos} : EF F (.Dict [] [] pos) wNewT := by
  refine ⟨_, fun j => pe_dnewN, fun C Γ σ W H q Q s hw c p hp => ?_⟩
  obtain ⟨x, n⟩ := new_obj (o := NdO p []) (d := .dit []) s.holds (.dn .nil) hp
  exact c _ _ W _ hw x n
theorem own_dit {Γ : Gam} {σ : L2.St} {W : Wd} {H : Hp} (s : Sta K C Γ σ W H) {i : Nat} {q : Nat → List (D × D) → Prop} (h : cellOw Γ[i]? fun p x => kDit x fun xs => q p xs) :
    ∃ (a b : Addr) (es : List (D × D)) (xs : List NE), Γ[i]? = some (.ow a (.dit es)) ∧ σ[i]? = some (some (.ref a)) ∧ ¬ W.P a ∧ H a = some (NdO b xs) ∧ RepN K W xs es ∧ q a es := by
  obtain ⟨a, d, o, e, e1, _, _, p, e2, r, hq⟩ := s.own h
  cases d <;> first | exact (hq : False).elim | skip
  cases r with
  | dn r => exact ⟨a, _, _, _, e, e1, p, e2, r, hq⟩
theorem sx_popT [Lk w] (i : Nat) {apos cpos : Pos} (he : EX F e we) (hN : N[i]? = some x := by rfl) (hv : Vis sc x := by first | exact Or.inl rfl | exact Or.inr (Or.inl rfl) | exact Or.inr (Or.inr rfl)) (hd : (x == ("__debug__" : Str)) = false := by decide) (hcd : (x == ("__classdict__" : Str)) = false := by decide)
    (hbase : ∀ j : F.ι, attributeBase (.Name x px) "pop" (F.X j).env (eval (.Name x px) (F.X j).env) = eval (.Name x px) (F.X j).env := by intro _; rfl)
    (hfew : ∀ j : F.ι, ((backTo cpos (starEach [e] (F.X j).env)).all (fun x => !x.1) && (backToKw cpos (keywordEach [] (F.X j).env)).all (fun x => x.1.isSome)
      && decide (([e] : List Expr).length + ([] : List Keyword).length + (if ([] : List Keyword).isEmpty then 0 else 1) < 30)) = true := by intro _; rfl) (hline : (apos.endLine == cpos.line) = true := by rfl)
    (htr : ∀ j : F.ι, backTo cpos (starEach [e] (F.X j).env) = [(false, eval e (F.X j).env)] := by intro _; rfl)
    (hsw : ∀ j : F.ι, swapsWith (.Call (.Attribute (.Name x px) "pop" apos) [e] [] cpos) none pos.line (F.X j).env = pure false := by intro _; rfl) :
    SX F rk (.Expr (.Call (.Attribute (.Name x px) "pop" apos) [e] [] cpos) pos) (wPopT i we) := by
  obtain ⟨t1, a1, a2⟩ := he
  refine ⟨tDrop (tNPop K (tVar i) t1), fun j => ps_expr (by
    haveI : Lk (F.X j).w := by rw [F.w']; infer_instance
    have := pe_npop (nroom (F.room j)) (pe_slot (F := F) (pos := px) hN hv hd hcd j) (a1 j) (hbase j) (hfew j) hline (htr j)
    rw [F.K'] at this
    exact this) (hsw j), fun C Γ σ W H E D s hw t => ?_⟩
  obtain ⟨a, b, es, xs, e0, e1, p, e2, r, hq⟩ := own_dit s hw
  refine ⟨_, e1, a, b, xs, rfl, e2, a2 C Γ σ W H _ _ s hq fun v d W' H' hq x' r' => ?_⟩
  have e3 := x'.fr _ _ e2 p
  have rr := r.le x'.le
  exact ⟨W', b, xs, es, d, x'.holds, e3, rr, r', hq.1.1, hq.1.2, fun v => t.nx _ _ W' _ hq.2 x'.le ((s.ext x').mut e0 (.dn (rr.drop hq.1.1)))⟩
theorem sx_clearT [Lk w] (i : Nat) {apos cpos : Pos} (hN : N[i]? = some x := by rfl) (hv : Vis sc x := by first | exact Or.inl rfl | exact Or.inr (Or.inl rfl) | exact Or.inr (Or.inr rfl)) (hd : (x == ("__debug__" : Str)) = false := by decide) (hcd : (x == ("__classdict__" : Str)) = false := by decide)
    (hbase : ∀ j : F.ι, attributeBase (.Name x px) "clear" (F.X j).env (eval (.Name x px) (F.X j).env) = eval (.Name x px) (F.X j).env := by intro _; rfl) (hline : (apos.endLine == cpos.line) = true := by rfl)
    (hsw : ∀ j : F.ι, swapsWith (.Call (.Attribute (.Name x px) "clear" apos) [] [] cpos) none pos.line (F.X j).env = pure false := by intro _; rfl) :
    SX F rk (.Expr (.Call (.Attribute (.Name x px) "clear" apos) [] [] cpos) pos) (wClearT i) := by
  refine ⟨tDrop (tNClear K (tVar i)), fun j => ps_expr (by
    haveI : Lk (F.X j).w := by rw [F.w']; infer_instance
    have := pe_nclear (pe_slot (F := F) (pos := px) hN hv hd hcd j) (hbase j) hline
    rw [F.K'] at this
    exact this) (hsw j), fun C Γ σ W H E D s hw t => ?_⟩
  obtain ⟨a, b, es, xs, e0, e1, p, e2, r, hq⟩ := own_dit s hw
  exact ⟨_, e1, W, a, b, xs, es, rfl, s.holds, e2, r, t.nx _ _ W _ hq (.refl W) (s.mut e0 (.dn .nil))⟩
end
end
end DL

/-! DLock: a dict that is walked is locked. -/
namespace DL
open PySem PySem.Spec PyProof.Rows L2
variable [WW]
section
variable {P : Program} {w : World} {K : PySem.W.Frag} {mg : Str → Option Value} {base : Heap} {N : List Str} {sc : Scope} {k : Nat}
variable {F : Fam P w K mg base N sc k} {C : Ctx} {rk : RK}

theorem lkb_dK {kvs : List (Key × V)} : Lkb (.dK kvs) := ⟨trivial, fun _ e => nomatch e⟩
theorem Lkb.nofrz {u : HO} (m : Lkb u) {ob : Obj} {v : HO} : u ≠ .frz ob v := fun e => by
  subst e
  exact m.1
/-- what may be locked: it stands for good, or is a caller's -/
structure Lck (C : Ctx) (W : Wd) (H : Hp) (d : Addr) (u : HO) : Prop where
  at_ : H d = some u
  m : Lkb u
  o : W.B d = some u ∨ (C.H0 d = some u ∧ ¬ C.W0.P d)
abbrev lockC (C : Ctx) (d : Addr) (od : Obj) (u : HO) : Ctx := ⟨C.W0, C.H0, (d, od, u) :: C.Lk⟩
theorem Lck.bas {W : Wd} {H : Hp} {d : Addr} {u : HO} (l : Lck C W H d u) (g : Glo C W H) : (∀ o, C.H0 d = some o → ¬ C.W0.P d → o = u) ∧ (∀ y ∈ C.Lk, y.1 ≠ d) ∧ ¬ W.P d := by
  refine ⟨fun o e p => ?_, fun y hy e => ?_, fun p => ?_⟩
  · rcases g.fr d o e p with q | ⟨ob, q⟩
    · exact (Option.some.inj (l.at_.symm.trans q)).symm
    · have q := (g.lk _ q).1
      exact absurd (Option.some.inj (l.at_.symm.trans q)) l.m.nofrz
  · have q := (g.lk y hy).1
    rw [e] at q
    exact absurd (Option.some.inj (l.at_.symm.trans q)) l.m.nofrz
  · obtain ⟨⟨x, y, z, e, _⟩, _⟩ := g.holds.p d p
    exact l.m.2 _ (Option.some.inj (l.at_.symm.trans e))
theorem Sta.lock {Γ : Gam} {σ : L2.St} {W : Wd} {H : Hp} (s : Sta K C Γ σ W H) {d : Addr} {u : HO} (l : Lck C W H d u) (od : Obj) : Sta K (lockC C d od u) Γ σ W (L2.upd H d (.frz od u)) := by
  obtain ⟨b1, b2, b3⟩ := l.bas s.glo
  refine ⟨⟨s.glo.le, s.glo.nb, s.glo.np, ⟨fun a o e => ?_, fun a p => ?_⟩, s.glo.h0, fun a o e p => ?_, fun y hy => ?_, fun a o e => ?_⟩, s.len, fun i c e => ?_, s.ap⟩
  · by_cases ha : a = d
    · subst ha
      have eo : o = u := by
        rcases s.holds.b a o e with q | ⟨_, ob, q⟩
        · exact (Option.some.inj (l.at_.symm.trans q)).symm
        · exact absurd (Option.some.inj (l.at_.symm.trans q)) l.m.nofrz
      subst eo
      exact .inr ⟨l.m, od, L2.upd_same⟩
    · rcases s.holds.b a o e with q | ⟨m, ob, q⟩
      · exact .inl (by rw [L2.upd_ne ha]; exact q)
      · exact .inr ⟨m, ob, by rw [L2.upd_ne ha]; exact q⟩
  · have ha : a ≠ d := fun z => b3 (by rw [← z]; exact p)
    obtain ⟨⟨x, y, z, e, r⟩, bb⟩ := s.holds.p a p
    exact ⟨⟨x, y, z, by rw [L2.upd_ne ha]; exact e, r⟩, bb⟩
  · by_cases ha : a = d
    · subst ha
      have eo := b1 o e p
      subst eo
      exact .inr ⟨od, List.mem_cons_self ..⟩
    · rcases s.glo.fr a o e p with q | ⟨ob, q⟩
      · exact .inl (by rw [L2.upd_ne ha]; exact q)
      · exact .inr ⟨ob, List.mem_cons_of_mem _ q⟩
  · rcases List.mem_cons.mp hy with rfl | hy
    · exact ⟨L2.upd_same, l.m⟩
    · obtain ⟨q1, q2⟩ := s.glo.lk y hy
      exact ⟨by rw [L2.upd_ne (b2 y hy)]; exact q1, q2⟩
  · by_cases ha : a = d
    · subst ha
      rcases s.glo.ex a o e with q | ⟨ob, q⟩ | ⟨ob, q, p⟩
      · have eo : o = u := (Option.some.inj (l.at_.symm.trans q)).symm
        subst eo
        exact .inr (.inl ⟨od, List.mem_cons_self ..⟩)
      · exact .inr (.inl ⟨ob, List.mem_cons_of_mem _ q⟩)
      · exact .inr (.inr ⟨ob, q, p⟩)
    · rcases s.glo.ex a o e with q | ⟨ob, q⟩ | q
      · exact .inl (by rw [L2.upd_ne ha]; exact q)
      · exact .inr (.inl ⟨ob, List.mem_cons_of_mem _ q⟩)
      · exact .inr (.inr q)
  · have q := s.cel i c e
    cases c with
    | no => trivial
    | sh d => exact q
    | bo d => exact q
    | ow a dd =>
      obtain ⟨q1, q2, q3, q4, o, q5, q6⟩ := q
      refine ⟨q1, q2, q3, q4, o, ?_, q6⟩
      rw [L2.upd_ne fun z => ?_]
      · exact q5
      · subst z
        rcases l.o with z | ⟨z, _⟩
        · rw [q3] at z; cases z
        · exact absurd (q2.symm.trans z) (fun e => nomatch e)
/-- behind the walk -/
theorem Glo.unlock {W W' : Wd} {H H' : Hp} {d : Addr} {u : HO} {od : Obj} (l : Lck C W H d u) (g : Glo C W H) (le : W.Le W') (g' : Glo (lockC C d od u) W' H') : H' d = some (.frz od u) ∧ Glo C W' (L2.upd H' d u) := by
  obtain ⟨b1, b2, b3⟩ := l.bas g
  have hd : H' d = some (.frz od u) := (g'.lk (d, od, u) (List.mem_cons_self ..)).1
  have wB : ∀ o, W'.B d = some o → o = u := fun o e => by
    rcases l.o with z | ⟨z, p⟩
    · exact Option.some.inj (e.symm.trans (le.b _ _ z))
    · rcases g'.nb d o e with q | q
      · rcases g.h0.b d o q with q | ⟨_, ob, q⟩
        · exact (Option.some.inj (z.symm.trans q)).symm
        · exact absurd (Option.some.inj (z.symm.trans q)) l.m.nofrz
      · exact absurd (q.symm.trans z) (fun e => nomatch e)
  refine ⟨hd, g'.le, g'.nb, g'.np, ⟨fun a o e => ?_, fun a p => ?_⟩, g'.h0, fun a o e p => ?_, fun y hy => ?_, fun a o e => ?_⟩
  · by_cases ha : a = d
    · subst ha
      have eo := wB o e
      subst eo
      exact .inl L2.upd_same
    · rcases g'.holds.b a o e with q | ⟨m, ob, q⟩
      · exact .inl (by rw [L2.upd_ne ha]; exact q)
      · exact .inr ⟨m, ob, by rw [L2.upd_ne ha]; exact q⟩
  · obtain ⟨⟨x, y, z, e, r⟩, bb⟩ := g'.holds.p a p
    have ha : a ≠ d := fun q => by
      rw [q, hd] at e
      exact nomatch (Option.some.inj e)
    exact ⟨⟨x, y, z, by rw [L2.upd_ne ha]; exact e, r⟩, bb⟩
  · by_cases ha : a = d
    · subst ha
      have eo := b1 o e p
      subst eo
      exact .inl L2.upd_same
    · rcases g'.fr a o e p with q | ⟨ob, q⟩
      · exact .inl (by rw [L2.upd_ne ha]; exact q)
      · rcases List.mem_cons.mp q with q | q
        · exact absurd (congrArg Prod.fst q) ha
        · exact .inr ⟨ob, q⟩
  · obtain ⟨q1, q2⟩ := g'.lk y (List.mem_cons_of_mem _ hy)
    exact ⟨by rw [L2.upd_ne (b2 y hy)]; exact q1, q2⟩
  · by_cases ha : a = d
    · subst ha
      have eo := wB o e
      subst eo
      exact .inl L2.upd_same
    · rcases g'.ex a o e with q | ⟨ob, q⟩ | q
      · exact .inl (by rw [L2.upd_ne ha]; exact q)
      · rcases List.mem_cons.mp q with q | q
        · exact absurd (congrArg Prod.fst q) ha
        · exact .inr (.inl ⟨ob, q⟩)
      · exact .inr (.inr q)
theorem Sta.unlock {Γ : Gam} {σ : L2.St} {W W' : Wd} {H H' : Hp} {d : Addr} {u : HO} {od : Obj} (l : Lck C W H d u) (g : Glo C W H) (le : W.Le W') (s : Sta K (lockC C d od u) Γ σ W' H') : Sta K C Γ σ W' (L2.upd H' d u) := by
  obtain ⟨hd, g'⟩ := g.unlock l le s.glo
  refine ⟨g', s.len, fun i c e => ?_, s.ap⟩
  have q := s.cel i c e
  cases c with
  | no => trivial
  | sh d => exact q
  | bo d => exact q
  | ow a dd =>
    obtain ⟨q1, q2, q3, q4, o, q5, q6⟩ := q
    refine ⟨q1, q2, q3, q4, o, ?_, q6⟩
    rw [L2.upd_ne fun z => ?_]
    · exact q5
    · rw [z, hd] at q5
      exact q6.nofrz (Option.some.inj q5).symm
theorem ps_or {X : Cx} {st : Stmt} {t t' : TS} (h : PS X st t) (h' : PS X st t') : PS X st (fun D σ H => t D σ H ∨ t' D σ H) :=
  ⟨fun pins s σ H D I q => by
    rcases q with q | q
    · exact h.run pins s σ H D I q
    · exact h'.run pins s σ H D I q⟩
theorem pe_or2 {X : Cx} {e : Expr} {t t' : TE} (h : PE X e t) (h' : PE X e t') : PE X e (fun σ H Q => t σ H Q ∨ t' σ H Q) :=
  ⟨fun pins s σ H Q I q => by
    rcases q with q | q
    · exact h.run pins s σ H Q I q
    · exact h'.run pins s σ H Q I q⟩
/-- the keys of the locked dict at d -/
def KeyO (K : PySem.W.Frag) (W : Wd) (u : HO) (es : List (D × D)) : Prop := (∃ kvs, u = .dK kvs ∧ RepK K W kvs es) ∨ ∃ b xs, u = NdO b xs ∧ RepN K W xs es
theorem KeyO.lkb {W : Wd} {u : HO} {es : List (D × D)} (h : KeyO K W u es) : Lkb u := by
  rcases h with ⟨kvs, rfl, _⟩ | ⟨b, xs, rfl, _⟩
  · exact lkb_dK
  · exact lkb_nd
theorem wlk_keys {d : Addr} {od : Obj} {u : HO} {es : List (D × D)} {Wk : Wd} (r : KeyO K Wk u es) : ∃ J, KIt d od u J ∧ Wlk K J (es.map (·.1)) (fun W H => H d = some (.frz od u) ∧ Wk.Le W) := by
  rcases r with ⟨kvs, rfl, r⟩ | ⟨b, xs, rfl, r⟩
  · refine ⟨_, .k, fun i W H e hw hi => ⟨e.1, by rw [r.length]; simpa using hi⟩, fun W H e hw => ⟨e.1, by rw [r.length]; simp⟩, fun i q W H x H' hi e hw y => ?_⟩
    obtain ⟨e1, k, v, e2, e3⟩ := y
    subst e1
    have hk := r.keys
    rw [hk, List.getElem?_map, e2] at hi
    have hi : some (keyD k) = some q := hi
    cases hi
    subst e3
    exact ⟨W, .refl hw, rep_key W k⟩
  · refine ⟨_, .n, fun i W H e hw hi => ⟨e.1, by rw [r.length]; simpa using hi⟩, fun W H e hw => ⟨e.1, by rw [r.length]; simp⟩, fun i q W H x H' hi e hw y => ?_⟩
    obtain ⟨e1, k, p, v, e2, e3⟩ := y
    subst e1
    subst e3
    obtain ⟨q', h1, h2⟩ := r.keyV.get2 (i := i) (v := V.ref p) (by rw [List.getElem?_map, e2]; rfl)
    rw [h1] at hi
    cases hi
    exact ⟨W, .refl hw, h2.le e.2⟩
/-- a dict that is locked already: it stays so -/
structure Lkd (C : Ctx) (d : Addr) (ob : Obj) (u : HO) : Prop where
  o : (d, ob, u) ∈ C.Lk ∨ (C.H0 d = some (.frz ob u) ∧ ¬ C.W0.P d)
theorem Lkd.at_ {d : Addr} {ob : Obj} {u : HO} (l : Lkd C d ob u) {W : Wd} {H : Hp} (g : Glo C W H) : H d = some (.frz ob u) := by
  rcases l.o with l | ⟨l, p⟩
  · exact (g.lk _ l).1
  · rcases g.fr d _ l p with q | ⟨oc, q⟩
    · exact q
    · exact absurd rfl ((g.lk _ q).2.nofrz (ob := ob) (v := u))
/-- the dict of a name: where it stands -/
theorem Sta.dic {Γ : Gam} {σ : L2.St} {W : Wd} {H : Hp} (s : Sta K C Γ σ W H) {i : Nat} {q : List D → Prop} (h : dicIt Γ[i]? q) :
    ∃ (d : Addr) (u : HO) (es : List (D × D)), σ[i]? = some (some (.ref d)) ∧ KeyO K W u es ∧ q (es.map (·.1)) ∧ (Lck C W H d u ∨ ∃ ob, Lkd C d ob u) := by
  have good : ∀ (d : Addr) (u : HO), W.B d = some u → Lkb u → Lck C W H d u ∨ ∃ ob, Lkd C d ob u := fun d u qa m => by
    rcases s.glo.ex _ _ qa with z | ⟨ob, z⟩ | ⟨ob, z, p⟩
    · exact .inl ⟨z, m, .inl qa⟩
    · exact .inr ⟨ob, ⟨.inl z⟩⟩
    · exact .inr ⟨ob, ⟨.inr ⟨z, p⟩⟩⟩
  have call : ∀ (d : Addr) (u : HO), RdO C.H0 d u → ¬ C.W0.P d → Lkb u → Lck C W H d u ∨ ∃ ob, Lkd C d ob u := fun d u e2 p m => by
    rcases e2 with e2 | ⟨_, ob, e2⟩
    · rcases s.glo.fr _ _ e2 p with z | ⟨ob, z⟩
      · exact .inl ⟨z, m, .inr ⟨e2, p⟩⟩
      · exact .inr ⟨ob, ⟨.inl z⟩⟩
    · exact .inr ⟨ob, ⟨.inr ⟨e2, p⟩⟩⟩
  cases e : Γ[i]? with
  | none => rw [e] at h; exact h.elim
  | some c =>
    rw [e] at h
    have hc := s.cel i c e
    match c, h with
    | .sh (.dic es), h =>
      obtain ⟨v, e1, r⟩ := hc
      cases r with
      | dk qa ra => exact ⟨_, _, es, e1, .inl ⟨_, rfl, ra⟩, h, good _ _ qa lkb_dK⟩
    | .sh (.dit es), h =>
      obtain ⟨v, e1, r⟩ := hc
      cases r with
      | dn qa ra => exact ⟨_, _, es, e1, .inr ⟨_, _, rfl, ra⟩, h, good _ _ qa lkb_nd⟩
    | .bo (.dic es), h =>
      obtain ⟨v, e1, r | ⟨a, o, rfl, e2, p, r⟩⟩ := hc
      · cases r with
        | dk qa ra => exact ⟨_, _, es, e1, .inl ⟨_, rfl, ra⟩, h, good _ _ qa lkb_dK⟩
      · cases r with
        | dk ra => exact ⟨_, _, es, e1, .inl ⟨_, rfl, ra⟩, h, call _ _ e2 p lkb_dK⟩
    | .bo (.dit es), h =>
      obtain ⟨v, e1, r | ⟨a, o, rfl, e2, p, r⟩⟩ := hc
      · cases r with
        | dn qa ra => exact ⟨_, _, es, e1, .inr ⟨_, _, rfl, ra⟩, h, good _ _ qa lkb_nd⟩
      · cases r with
        | dn ra => exact ⟨_, _, es, e1, .inr ⟨_, _, rfl, ra⟩, h, call _ _ e2 p lkb_nd⟩
/-! ### for k in d -/
section
variable {tg : Expr} {body : List Stmt} {g : WG} {b : WS} {pos px : Pos} {x : Str}
theorem sx_forKeys (i : Nat) (hg : EG F tg g) (hb : SXs F rk body b) (hN : N[i]? = some x := by rfl) (hv : Vis sc x := by first | exact Or.inl rfl | exact Or.inr (Or.inl rfl) | exact Or.inr (Or.inr rfl)) (hd : (x == ("__debug__" : Str)) = false := by decide) (hcd : (x == ("__classdict__" : Str)) = false := by decide)
    (hp : ∀ j : F.ι, PassesOwn (model (F.X j).prog (F.X j).w) (F.X j).A (F.X j).env (F.X j).xe := by intro _; exact PassesOwn.never)
    (hs : ∀ (j : F.ι) z, foldedSetIterable (.Name x px) (F.X j).env z = pure z := by intro _ _; rfl) : SX F rk (.For tg (.Name x px) body [] pos) (wFor (wKeys i) g b) := by
  obtain ⟨tgt, g1, g2⟩ := hg
  obtain ⟨tb, b1, b2⟩ := hb
  refine ⟨_, fun j => ps_or (ps_lock (ps_for (hp j) (F.calm j) (pi_keysA (pe_slot (F := F) (pos := px) hN hv hd hcd j)) (g1 j) (b1 j) (hs j))) (ps_for (hp j) (F.calm j) (pi_keysA (pe_slot (F := F) (pos := px) hN hv hd hcd j)) (g1 j) (b1 j) (hs j)), fun C Γ σ W H E D s hw t => ?_⟩
  obtain ⟨d, u, es, e1, r, hq, hl | ⟨ob, hl⟩⟩ := s.dic hw
  · refine .inl ⟨d, u, hl.at_, hl.m.1, fun od => ?_⟩
    have s' := s.lock hl od
    obtain ⟨J, kj, wl⟩ := wlk_keys (od := od) (d := d) r
    refine ⟨_, e1, d, od, u, J, rfl, L2.upd_same, kj, ?_⟩
    refine for_core (C := lockC C d od u) (rk := rk) (keep := fun _ => True) wl (fun Γ' σ' W' H' l s2 _ => ⟨(s2.glo.lk (d, od, u) (List.mem_cons_self ..)).1, l⟩) s' (.refl W) trivial g2 b2 hq ?_
    refine ⟨fun Γ2 σ2 W2 H2 q l s2 => ?_, fun Γ2 σ2 W2 H2 q l s2 => ?_, fun Γ2 σ2 W2 H2 q l s2 => ?_, fun v dd W2 H2 q l g' rr => ?_⟩
    · exact ⟨(s.glo.unlock hl l s2.glo).1, t.nx Γ2 σ2 W2 _ q l (s2.unlock hl s.glo l)⟩
    · exact ⟨(s.glo.unlock hl l s2.glo).1, t.bk Γ2 σ2 W2 _ q l (s2.unlock hl s.glo l)⟩
    · exact ⟨(s.glo.unlock hl l s2.glo).1, t.ct Γ2 σ2 W2 _ q l (s2.unlock hl s.glo l)⟩
    · obtain ⟨hd', g2⟩ := s.glo.unlock hl l g'
      refine ⟨hd', t.rt v dd W2 _ q l g2 ?_⟩
      cases rk with
      | sh => exact rr
      | fr =>
        rcases rr with rr | ⟨p, o, e2, e3, e4, e5, e6, e7⟩
        · exact .inl rr
        · refine .inr ⟨p, o, e2, e3, e4, e5, ?_, e7⟩
          rw [L2.upd_ne fun z => ?_]
          · exact e6
          · rw [z, hd'] at e6
            exact e7.nofrz (Option.some.inj e6).symm
  · obtain ⟨J, kj, wl⟩ := wlk_keys (od := ob) (d := d) r
    refine .inr ⟨_, e1, d, ob, u, J, rfl, hl.at_ s.glo, kj, ?_⟩
    exact for_core (rk := rk) (keep := fun _ => True) wl (fun Γ' σ' W' H' l s2 _ => ⟨hl.at_ s2.glo, l⟩) s (.refl W) trivial g2 b2 hq t
end

/-! ### comprehensions over a dict's keys -/
theorem Ext.unlock {Γ : Gam} {σ : L2.St} {W W' : Wd} {H H' : Hp} {d : Addr} {u : HO} {od : Obj} (s : Sta K C Γ σ W H) (l : Lck C W H d u) (x : Ext W (L2.upd H d (.frz od u)) W' H') : H' d = some (.frz od u) ∧ Ext W H W' (L2.upd H' d u) := by
  obtain ⟨hd, g⟩ := s.glo.unlock l x.le ((s.lock l od).ext x).glo
  refine ⟨hd, x.le, fun a o e => ?_, fun a p => ?_, g.holds, fun a o e p => ?_⟩
  · rcases x.nb a o e with q | ⟨q1, q2⟩
    · exact .inl q
    · have ha : a ≠ d := fun z => by rw [z, L2.upd_same] at q1; cases q1
      rw [L2.upd_ne ha] at q1
      exact .inr ⟨q1, by rw [L2.upd_ne ha]; exact q2⟩
  · rcases x.np a p with q | q
    · exact .inl q
    · have ha : a ≠ d := fun z => by rw [z, L2.upd_same] at q; cases q
      rw [L2.upd_ne ha] at q
      exact .inr q
  · by_cases ha : a = d
    · subst ha
      rw [L2.upd_same]
      exact l.at_.symm.trans e
    · rw [L2.upd_ne ha]
      exact x.fr a o (by rw [L2.upd_ne ha]; exact e) p
theorem New.unlock {W W' : Wd} {H H' : Hp} {d : Addr} {u : HO} {od : Obj} {v : V} {t : D} (n : New K W (L2.upd H d (.frz od u)) W' H' v t) : New K W H W' (L2.upd H' d u) v t := by
  rcases n with n | ⟨p, o, e1, e2, e3, e4, e5, e6⟩
  · exact .inl n
  · have hp : p ≠ d := fun z => by rw [z, L2.upd_same] at e2; cases e2
    rw [L2.upd_ne hp] at e2
    exact .inr ⟨p, o, e1, e2, e3, e4, by rw [L2.upd_ne hp]; exact e5, e6⟩
/-- an expression that walks the dict of the name i -/
theorem lock_core {i : Nat} {ti : TI} {wc : (List D → Prop) → Gam → (D → Prop) → Prop} {te : TE} {we : WE} {x : Str} {e : Expr} {px : Pos}
    (h1 : ∀ j, PE (F.X j) e te)
    (h2 : ∀ C Γ σ W H (q : D → Prop) (Q : VK) (d : Addr) (od : Obj) (u : HO) (es : List (D × D)), Sta K C Γ σ W H → (∀ Γ' σ' W' H', W.Le W' → Sta K C Γ' σ' W' H' → H' d = some (.frz od u)) → σ[i]? = some (some (.ref d)) → KeyO K W u es → we Γ q → dicIt Γ[i]? (· = es.map (·.1)) →
      (∀ v t W' H', q t → Ext W H W' H' → New K W H W' H' v t → Q v H') → te σ H Q)
    (h3 : ∀ Γ q, we Γ q → ∃ es, dicIt Γ[i]? (· = es)) : EF F e we := by
  refine ⟨_, fun j => pe_or2 (pe_lock (h1 j)) (h1 j), fun C Γ σ W H q Q s hw c => ?_⟩
  obtain ⟨es0, he0⟩ := h3 Γ q hw
  obtain ⟨d, u, es, e1, r, rfl, hl | ⟨ob, hl⟩⟩ := s.dic he0
  · refine .inl ⟨d, u, hl.at_, hl.m.1, fun od => ?_⟩
    have s' := s.lock hl od
    refine h2 (lockC C d od u) Γ σ W _ q _ d od u es s' (fun Γ' σ' W' H' _ s2 => (s2.glo.lk (d, od, u) (List.mem_cons_self ..)).1) e1 r hw he0 fun v t W' H' hq x n => ?_
    obtain ⟨hd, x'⟩ := Ext.unlock s hl x
    exact ⟨hd, c v t W' _ hq x' n.unlock⟩
  · exact .inr (h2 C Γ σ W H q Q d ob u es s (fun Γ' σ' W' H' _ s2 => hl.at_ s2.glo) e1 r hw he0 c)
theorem dicIt_of {c : Option Cel} {q : List D → Prop} (h : dicIt c q) : ∃ es, dicIt c (· = es) ∧ q es := by
  match c, h with
  | some (.sh (.dic es)), h => exact ⟨_, rfl, h⟩
  | some (.bo (.dic es)), h => exact ⟨_, rfl, h⟩
  | some (.sh (.dit es)), h => exact ⟨_, rfl, h⟩
  | some (.bo (.dit es)), h => exact ⟨_, rfl, h⟩
theorem dicIt_q {c : Option Cel} {q : List D → Prop} {es : List D} (h : dicIt c q) (h' : dicIt c (· = es)) : q es := by
  match c, h, h' with
  | some (.sh (.dic _)), h, h' => exact (show _ = es from h') ▸ h
  | some (.bo (.dic _)), h, h' => exact (show _ = es from h') ▸ h
  | some (.sh (.dit _)), h, h' => exact (show _ = es from h') ▸ h
  | some (.bo (.dit _)), h, h' => exact (show _ = es from h') ▸ h
section
variable {elt kx tg : Expr} {ifs : List Expr} {scope : Scope} {own : List (Str × Nat)} {pos px : Pos} {g : WG} {wt : WT} {we wk : WE} {x : Str}
theorem ef_compK (i : Nat) (ok : blkC N sc scope own = true) (hg : EGo (F.blk scope) (own.map (·.2)) tg g) (ht : EPts (F.blk scope) ifs wt) (he : EX (F.blk scope) elt we) (hN : N[i]? = some x := by rfl) (hv : Vis sc x := by first | exact Or.inl rfl | exact Or.inr (Or.inl rfl) | exact Or.inr (Or.inr rfl)) (hd : (x == ("__debug__" : Str)) = false := by decide) (hcd : (x == ("__classdict__" : Str)) = false := by decide)
    (hs : ∀ (j : F.ι) z, foldedSetIterable (.Name x px) (F.X j).env z = pure z := by intro _ _; rfl) : EF F (.ListComp elt [⟨tg, .Name x px, ifs, 0⟩] scope pos) (wComp (own.map (·.2)) (wKeys i) g wt we) := by
  obtain ⟨tgt, g1, g2⟩ := hg
  obtain ⟨tt, t1, t2⟩ := ht
  obtain ⟨te, e1, e2⟩ := he
  refine lock_core (i := i) (ti := iKeysA (tVar i)) (wc := fun _ _ _ => True) (x := x) (px := px) (fun j => pe_lc (F.calm j) (by rw [F.N']; exact F.nd) (pi_keysA (pe_slot (F := F) (pos := px) hN hv hd hcd j)) (blk_ok ok j) (fun s H A cl fp => g1 (j, s, H, A, cl, fp)) (fun s H A cl fp => t1 (j, s, H, A, cl, fp)) (fun s H A cl fp => e1 (j, s, H, A, cl, fp)) (hs j)) (fun C Γ σ W H q Q d od u es s hd eσ r hw he0 c => ?_) fun Γ q hw => ?_
  · have hw' : dicIt Γ[i]? _ := hw
    obtain ⟨J, kj, wl⟩ := wlk_keys (od := od) (d := d) r
    refine ⟨_, eσ, d, od, u, J, rfl, hd Γ σ W H (.refl W) s, kj, fun A nA => ?_⟩
    have hq0 := dicIt_q hw' he0
    exact comp_run wl (fun W' H' l s' => ⟨hd Γ σ W' H' l s', l⟩) s nA g2 t2 e2 hq0 fun acc W' H' hq' x' n => c _ _ W' H' hq' x' n
  · have hw' : dicIt Γ[i]? _ := hw
    obtain ⟨es, h1, _⟩ := dicIt_of hw'
    exact ⟨es, h1⟩
theorem ef_dcompK (i : Nat) (ok : blkC N sc scope own = true) (hg : EGo (F.blk scope) (own.map (·.2)) tg g) (ht : EPts (F.blk scope) ifs wt) (hkx : EX (F.blk scope) kx wk) (he : EX (F.blk scope) elt we) (hN : N[i]? = some x := by rfl) (hv : Vis sc x := by first | exact Or.inl rfl | exact Or.inr (Or.inl rfl) | exact Or.inr (Or.inr rfl)) (hd : (x == ("__debug__" : Str)) = false := by decide) (hcd : (x == ("__classdict__" : Str)) = false := by decide)
    (hs : ∀ (j : F.ι) z, foldedSetIterable (.Name x px) (F.X j).env z = pure z := by intro _ _; rfl) : EF F (.DictComp kx elt [⟨tg, .Name x px, ifs, 0⟩] scope pos) (wDComp (own.map (·.2)) (wKeys i) g wt wk we) := by
  obtain ⟨tgt, g1, g2⟩ := hg
  obtain ⟨tt, t1, t2⟩ := ht
  obtain ⟨tk, k1, k2⟩ := hkx
  obtain ⟨te, e1, e2⟩ := he
  refine lock_core (i := i) (ti := iKeysA (tVar i)) (wc := fun _ _ _ => True) (x := x) (px := px) (fun j => pe_dc (F.calm j) (by rw [F.N']; exact F.nd) (pi_keysA (pe_slot (F := F) (pos := px) hN hv hd hcd j)) (blk_ok ok j) (fun s H A cl fp => g1 (j, s, H, A, cl, fp)) (fun s H A cl fp => t1 (j, s, H, A, cl, fp)) (fun s H A cl fp => k1 (j, s, H, A, cl, fp)) (fun s H A cl fp => e1 (j, s, H, A, cl, fp)) (hs j)) (fun C Γ σ W H q Q d od u es s hd eσ r hw he0 c => ?_) fun Γ q hw => ?_
  · have hw' : dicIt Γ[i]? _ := hw
    obtain ⟨J, kj, wl⟩ := wlk_keys (od := od) (d := d) r
    refine ⟨_, eσ, d, od, u, J, rfl, hd Γ σ W H (.refl W) s, kj, fun A nA => ?_⟩
    have hq0 := dicIt_q hw' he0
    exact dcomp_run wl (fun W' H' l s' => ⟨hd Γ σ W' H' l s', l⟩) s nA g2 t2 k2 e2 hq0 fun acc W' H' hq' x' n => c _ _ W' H' hq' x' n
  · have hw' : dicIt Γ[i]? _ := hw
    obtain ⟨es, h1, _⟩ := dicIt_of hw'
    exact ⟨es, h1⟩
end
/-- y = [.. for k in d]: the statement as one -/
theorem lockS_core {i n : Nat} {te : TE} {we : WE} {x : Str} {st : Stmt}
    (h1 : ∀ j, PS (F.X j) st (tAsg te (gName n)))
    (h2 : ∀ C Γ σ W H (q : D → Prop) (Q : VK) (d : Addr) (od : Obj) (u : HO) (es : List (D × D)), Sta K C Γ σ W H → (∀ Γ' σ' W' H', W.Le W' → Sta K C Γ' σ' W' H' → H' d = some (.frz od u)) → σ[i]? = some (some (.ref d)) → KeyO K W u es → we Γ q → dicIt Γ[i]? (· = es.map (·.1)) →
      (∀ v t W' H', q t → Ext W H W' H' → New K W H W' H' v t → Q v H') → te σ H Q)
    (h3 : ∀ Γ q, we Γ q → ∃ es, dicIt Γ[i]? (· = es)) : ∃ T : TS, (∀ j, PS (F.X j) st T) ∧ ∀ C Γ σ W H (E : Ends) (q : D → Prop), Sta K C Γ σ W H → we Γ q → (∀ v t W' H', q t → Ext W H W' H' → New K W H W' H' v t → E.nx (σ.set n (some v)) H') → T E σ H := by
  refine ⟨_, fun j => ps_or (ps_lock (h1 j)) (h1 j), fun C Γ σ W H E q s hw c => ?_⟩
  obtain ⟨es0, he0⟩ := h3 Γ q hw
  obtain ⟨d, u, es, e1, r, rfl, hl | ⟨ob, hl⟩⟩ := s.dic he0
  · refine .inl ⟨d, u, hl.at_, hl.m.1, fun od => ?_⟩
    have s' := s.lock hl od
    refine h2 (lockC C d od u) Γ σ W _ q _ d od u es s' (fun Γ' σ' W' H' _ s2 => (s2.glo.lk (d, od, u) (List.mem_cons_self ..)).1) e1 r hw he0 fun v t W' H' hq x n => ?_
    obtain ⟨hd, x'⟩ := Ext.unlock s hl x
    exact ⟨hd, c v t W' _ hq x' n.unlock⟩
  · exact .inr (h2 C Γ σ W H q _ d ob u es s (fun Γ' σ' W' H' _ s2 => hl.at_ s2.glo) e1 r hw he0 c)
section
variable {elt tg : Expr} {ifs : List Expr} {scope : Scope} {own : List (Str × Nat)} {pos px py spos : Pos} {g : WG} {wt : WT} {we : WE} {x y : Str}
theorem compKS (n i : Nat) (ok : blkC N sc scope own = true) (hg : EGo (F.blk scope) (own.map (·.2)) tg g) (ht : EPts (F.blk scope) ifs wt) (he : EX (F.blk scope) elt we) (hN : N[i]? = some x) (hv : Vis sc x) (hd : (x == ("__debug__" : Str)) = false) (hcd : (x == ("__classdict__" : Str)) = false)
    (hNy : N[n]? = some y) (hyl : sc.names.lookup y = some .local) (hsw : ∀ j : F.ι, swapsWith (.ListComp elt [⟨tg, .Name x px, ifs, 0⟩] scope pos) (some (.Name y py)) spos.line (F.X j).env = pure true)
    (hs : ∀ (j : F.ι) z, foldedSetIterable (.Name x px) (F.X j).env z = pure z) : ∃ T : TS, (∀ j, PS (F.X j) (.Assign [.Name y py] (.ListComp elt [⟨tg, .Name x px, ifs, 0⟩] scope pos) spos) T) ∧ ∀ C Γ σ W H (E : Ends) (q : D → Prop), Sta K C Γ σ W H → wComp (own.map (·.2)) (wKeys i) g wt we Γ q → (∀ v t W' H', q t → Ext W H W' H' → New K W H W' H' v t → E.nx (σ.set n (some v)) H') → T E σ H := by
  obtain ⟨tgt, g1, g2⟩ := hg
  obtain ⟨tt, t1, t2⟩ := ht
  obtain ⟨te, e1, e2⟩ := he
  refine lockS_core (F := F) (i := i) (n := n) (x := x) (fun j => ps_setLc (i := n) (F.calm j) (by rw [F.N']; exact F.nd) (by rw [F.N']; exact hNy) (by rw [F.sc']; exact hyl) (hsw j) (pi_keysA (pe_slot (F := F) (pos := px) hN hv hd hcd j)) (blk_ok ok j) (fun s H A cl fp => g1 (j, s, H, A, cl, fp)) (fun s H A cl fp => t1 (j, s, H, A, cl, fp)) (fun s H A cl fp => e1 (j, s, H, A, cl, fp)) (hs j)) (fun C Γ σ W H q Q d od u es s hd eσ r hw he0 c => ?_) fun Γ q hw => ?_
  · have hw' : dicIt Γ[i]? _ := hw
    obtain ⟨J, kj, wl⟩ := wlk_keys (od := od) (d := d) r
    refine ⟨_, eσ, d, od, u, J, rfl, hd Γ σ W H (.refl W) s, kj, fun A nA => ?_⟩
    have hq0 := dicIt_q hw' he0
    exact comp_run wl (fun W' H' l s' => ⟨hd Γ σ W' H' l s', l⟩) s nA g2 t2 e2 hq0 fun acc W' H' hq' x' n => c _ _ W' H' hq' x' n
  · have hw' : dicIt Γ[i]? _ := hw
    obtain ⟨es, h1, _⟩ := dicIt_of hw'
    exact ⟨es, h1⟩
theorem sx_ownCK (n i : Nat) (ok : blkC N sc scope own = true) (hg : EGo (F.blk scope) (own.map (·.2)) tg g) (ht : EPts (F.blk scope) ifs wt) (he : EX (F.blk scope) elt we) (hN : N[i]? = some x := by rfl) (hv : Vis sc x := by first | exact Or.inl rfl | exact Or.inr (Or.inl rfl) | exact Or.inr (Or.inr rfl)) (hd : (x == ("__debug__" : Str)) = false := by decide) (hcd : (x == ("__classdict__" : Str)) = false := by decide)
    (hNy : N[n]? = some y := by rfl) (hyl : sc.names.lookup y = some .local := by rfl) (hl : (py.line == pos.line) = true := by rfl) (ha : (scope.names.any fun (n, k) => n == y && (k == .local || k == .cell)) = false := by decide +kernel) (hkd : sc.kind = .function := by rfl)
    (hs : ∀ (j : F.ι) z, foldedSetIterable (.Name x px) (F.X j).env z = pure z := by intro _ _; rfl) : SX F rk (.Assign [.Name y py] (.ListComp elt [⟨tg, .Name x px, ifs, 0⟩] scope pos) spos) (wOwnAsg n (wComp (own.map (·.2)) (wKeys i) g wt we)) := by
  obtain ⟨T, h1, h2⟩ := compKS (spos := spos) (py := py) (pos := pos) n i ok hg ht he hN hv hd hcd hNy hyl (fun j => sw_ok hyl hl ha hkd j) hs
  refine ⟨T, h1, fun C Γ σ W H E D s hw t => ?_⟩
  refine h2 C Γ σ W H E _ s hw fun v d W1 H1 hq x1 nn => ?_
  obtain ⟨p, s'⟩ := own_step (i := n) s x1 nn
  exact t.nx _ _ W1 H1 (hq p) x1.le s'
theorem sx_setCK (n i : Nat) (ok : blkC N sc scope own = true) (hg : EGo (F.blk scope) (own.map (·.2)) tg g) (ht : EPts (F.blk scope) ifs wt) (he : EX (F.blk scope) elt we) (hN : N[i]? = some x := by rfl) (hv : Vis sc x := by first | exact Or.inl rfl | exact Or.inr (Or.inl rfl) | exact Or.inr (Or.inr rfl)) (hd : (x == ("__debug__" : Str)) = false := by decide) (hcd : (x == ("__classdict__" : Str)) = false := by decide)
    (hNy : N[n]? = some y := by rfl) (hyl : sc.names.lookup y = some .local := by rfl) (hl : (py.line == pos.line) = true := by rfl) (ha : (scope.names.any fun (n, k) => n == y && (k == .local || k == .cell)) = false := by decide +kernel) (hkd : sc.kind = .function := by rfl)
    (hs : ∀ (j : F.ι) z, foldedSetIterable (.Name x px) (F.X j).env z = pure z := by intro _ _; rfl) : SX F rk (.Assign [.Name y py] (.ListComp elt [⟨tg, .Name x px, ifs, 0⟩] scope pos) spos) (wAsg (gNm n) (wComp (own.map (·.2)) (wKeys i) g wt we)) := by
  obtain ⟨T, h1, h2⟩ := compKS (spos := spos) (py := py) (pos := pos) n i ok hg ht he hN hv hd hcd hNy hyl (fun j => sw_ok hyl hl ha hkd j) hs
  refine ⟨T, h1, fun C Γ σ W H E D s hw t => ?_⟩
  refine h2 C Γ σ W H E _ s hw fun v d W1 H1 hq x1 nn => ?_
  obtain ⟨W'', x', r⟩ := nn.rep x1
  exact t.nx _ _ W'' H1 hq x'.le ((s.ext x').setSh r)
end
end
end DL

/-! DNComp: comprehensions that make a dict with tuple keys. -/
namespace DL
open PySem PySem.Spec PyProof.Rows L2
variable [WW]
/-- what a turn asks of the key and the value: the dict at D so far -/
def rNPut (K : PySem.W.Frag) (D : Addr) (y z : V) (H : Hp) (Nx : Hp → Prop) : Prop := ∃ W b xs es q p, y = .ref p ∧ Holds W H ∧ H D = some (NdO b xs) ∧ RepN K W xs es ∧ Rep K W y q ∧ q.nkey = true ∧ xs.length < sizeLine ∧ Nx (L2.upd H D (NdO D (putN xs (nk q) p z)))
/-- the turns -/
def TurnsN (K : PySem.W.Frag) (J : It) (g : TG) (tt : TT) (tk tv : TE) (vs : List Nat) (σ : L2.St) (D : Addr) (Wi : Nat → Nat → Hp → Prop) (Qd : Hp → Prop) : Prop := ∀ i m H, Wi i m H →
  (J.stop i H ∧ Qd H) ∨ (J.go i H ∧ ∃ Nx : Hp → Prop, (∀ H', Nx H' → ∃ m', m' < m ∧ Wi (i + 1) m' H') ∧ ∀ x H', J.yld i H x H' → g x (L2.wipe σ vs) H' fun σ2 H2 => L2.wipe σ2 vs = L2.wipe σ vs ∧ tt σ2 H2 fun b H3 =>
    if b = true then tk σ2 H3 fun y H4 => tv σ2 H4 fun z H5 => rNPut K D y z H5 Nx else Nx H3)
def tDcN (K : PySem.W.Frag) (wi : TI) (g : TG) (tt : TT) (tk tv : TE) (vs : List Nat) : TE := fun σ H Q => wi σ H fun J H1 => ∀ D, H1 D = none → ∃ Wi : Nat → Nat → Hp → Prop, (∃ m, Wi 0 m (L2.upd H1 D (NdO D []))) ∧ TurnsN K J g tt tk tv vs σ D Wi fun H => Q (.ref D) H
section
variable {X : Cx} [Lk X.w]
theorem pe_dcN {key val tg iter : Expr} {ifs : List Expr} {scope : Scope} {own : List (Str × Nat)} {pos : Pos} {wi : TI} {g : TG} {tt : TT} {tk tv : TE} (room : NRoom X.A) (calm : X.calm = true) (nd : X.N.Nodup) (hi : PI X tg iter wi) (ok : BlkOk X.N X.env.scope scope own)
    (hg : ∀ (s : Shared) (H : Hp) (A : Addr) (cl : List (Str × Addr)) (fp : List Addr), PG (X.blk s H scope (compEnvC scope cl A X.env) fp) tg g) (ht : ∀ (s : Shared) (H : Hp) (A : Addr) (cl : List (Str × Addr)) (fp : List Addr), PTs (X.blk s H scope (compEnvC scope cl A X.env) fp) ifs tt)
    (hk : ∀ (s : Shared) (H : Hp) (A : Addr) (cl : List (Str × Addr)) (fp : List Addr), PE (X.blk s H scope (compEnvC scope cl A X.env) fp) key tk) (hv : ∀ (s : Shared) (H : Hp) (A : Addr) (cl : List (Str × Addr)) (fp : List Addr), PE (X.blk s H scope (compEnvC scope cl A X.env) fp) val tv)
    (hs : ∀ x, foldedSetIterable iter X.env x = pure x) : PE X (.DictComp key val [⟨tg, iter, ifs, 0⟩] scope pos) (tDcN X.K wi g tt tk tv (own.map (·.2))) := by
  refine ⟨fun pins s σ H Q I h => ?_⟩
  rw [arm_eval_DictComp]
  have free : ∀ y ∈ scope.names, y.2 = .free → ∃ c, X.env.cells.lookup y.1 = some c := fun y hy e => (ok.free y hy e).elim (fun k => I.ok.has _ (.inl k)) fun k => I.ok.has _ (.inr k)
  refine wpAny_comprehension_free (use := none) rfl hs (closure_ok free) ok.kind (fun y hy e => by rw [ok.uniq y hy, e]) (thn (hi.run pins s σ H _ I h) fun _ _ q0 => thn q0 fun _ s2 q1 => ?_)
  obtain ⟨it, fp, tn, J, H2, rfl, I2, T, st2, f2, q⟩ := q1
  refine wpAny_newObj_type (newEnv_comp ?_)
  obtain ⟨D, hD⟩ : ∃ D, s2.heap.objs.size = D := ⟨_, rfl⟩
  rw [hD]
  obtain ⟨Wi, ⟨m0, w0⟩, turn⟩ := q D (I2.hok.fresh (Nat.le_of_eq hD))
  obtain ⟨s3, hs3⟩ : ∃ s3 : Shared, { s2 with heap := s2.heap.push { cls := .type "dict", data := .dict #[] } } = s3 := ⟨_, rfl⟩
  have I3 : L2.Inv X pins σ (L2.upd H2 D (NdO D [])) s3 := by
    rw [← hs3]
    refine I2.laid (t' := s2.toks) (fun _ _ e => Heap.get?_push_of_some _ e) (Nat.le_of_eq hD) (nd_okO ?_)
    rw [← hD]
    exact nd_empty s2.heap I2.big
  have h3 : s3.heap = s2.heap.push { cls := .type "dict", data := .dict #[] } := by rw [← hs3]
  have f3 : ∀ b ∈ fp, FpOk X pins (L2.upd H2 D (NdO D [])) b ∧ b < s3.heap.objs.size := fun b hb => by
    obtain ⟨o, eo, _⟩ := T.obj _ _ st2 b hb
    have lt := Heap.lt_size eo
    refine ⟨⟨?_, (f2 b hb).2⟩, by rw [h3, Heap.size_push]; exact Nat.lt_succ_of_lt lt⟩
    rw [L2.upd_ne (by rw [← hD]; exact Nat.ne_of_lt lt)]
    exact (f2 b hb).1
  have st3 : tn 0 s3.heap := T.keep _ _ _ st2 fun b _ o e => by rw [h3]; exact Heap.get?_push_of_some _ e
  have I4 := block_start I3 ok nd f3
  obtain ⟨cl, hcl⟩ : ∃ cl, cellsFrom (s3.heap.objs.size + 1) scope.names (cloFrom X.env.cells scope.names []) = cl := ⟨_, rfl⟩
  rw [hcl] at I4
  have pg := hg s3 (L2.upd H2 D (NdO D [])) s3.heap.objs.size cl fp
  have pt := ht s3 (L2.upd H2 D (NdO D [])) s3.heap.objs.size cl fp
  have pk := hk s3 (L2.upd H2 D (NdO D [])) s3.heap.objs.size cl fp
  have pv := hv s3 (L2.upd H2 D (NdO D [])) s3.heap.objs.size cl fp
  have goal : codeAny (model X.prog X.w) X.A (.compStart (.DictComp key val [⟨tg, iter, ifs, 0⟩] scope pos) 0 (.ref it) (.ref D) (compEnvC scope cl s3.heap.objs.size X.env)) (compPost (model X.prog X.w) X.A X.xe none (EP X pins σ Q) (.ref D) s3.heap.objs.size) { s3 with heap := pushCells (s3.heap.push { cls := .type "dict", data := .dict #[] }) scope.names } := by
    obtain ⟨ce, hce⟩ : ∃ ce, compEnvC scope cl s3.heap.objs.size X.env = ce := ⟨_, rfl⟩
    rw [hce] at I4 pg pt pk pv ⊢
    have cL : ce.locals = s3.heap.objs.size := by rw [← hce]; rfl
    obtain ⟨H3, hH3⟩ : ∃ H3, L2.upd H2 D (NdO D []) = H3 := ⟨_, rfl⟩
    rw [hH3] at I3 I4 pg pt pk pv w0 f3
    obtain ⟨s4, hs4⟩ : ∃ s4 : Shared, { s3 with heap := pushCells (s3.heap.push { cls := .type "dict", data := .dict #[] }) scope.names } = s4 := ⟨_, rfl⟩
    rw [hs4] at I4 ⊢
    have st4 : tn 0 s4.heap := T.keep _ _ _ st3 fun b _ o e => by rw [← hs4]; exact pushCells_keeps _ _ _ _ (Heap.get?_push_of_some _ e)
    have still : ∀ {σ' : L2.St} {H' : Hp} {s' : Shared}, L2.Inv (X.blk s3 H3 scope ce fp) [] σ' H' s' → (∀ b ∈ fp, H' b = none) → ∀ b ∈ fp, FpOk (X.blk s3 H3 scope ce fp) [] H' b := fun {σ' H' s'} I' hn b hb =>
      ⟨hn b hb, (I'.ok.exf b hb).1, I'.ok.exfs b hb, .inl hb, fun x c e => (I'.ok.exf b hb).2 x c e, fun p hp => (List.not_mem_nil (show p ∈ ([] : List (Addr × Obj)) from hp)).elim⟩
    have loop : codeAny (model X.prog X.w) X.A (.compLoop (.DictComp key val [⟨tg, iter, ifs, 0⟩] scope pos) 0 (.ref it) (.ref D) ce) (compPost (model X.prog X.w) X.A X.xe none (EP X pins σ Q) (.ref D) s3.heap.objs.size) s4 := by
      refine compLoop_anyD (fun n s' => ∃ i H', L2.Inv (X.blk s3 H3 scope ce fp) [] (L2.wipe σ (own.map (·.2))) H' s' ∧ tn i s'.heap ∧ (∀ b ∈ fp, H' b = none) ∧ Wi i n H') ?_ m0 ⟨0, H3, I4, st4, fun b hb => (f3 b hb).1.1, w0⟩
      rintro n s5 ⟨i, H5, I5, st5, n5, w5⟩
      rcases turn i n H5 w5 with ⟨stop, qq⟩ | ⟨go, Nx, hNx, step⟩
      · refine thnF (T.done (X.blk s3 H3 scope ce fp) rfl rfl rfl calm i [] s5 _ H5 (fun _ _ => False) I5 (still I5 n5) st5 stop) fun r s6 ⟨hr, I6⟩ => ?_
        subst hr
        have I7 : L2.Inv X pins σ H5 s6 := I3.call' (ch := fp) I6.os I6.base I6.hok I6.bare fun b hb => ⟨(f3 b hb).1.2.2.2.1, (f3 b hb).1.2.1, (f3 b hb).1.2.2.2.2.1, (f3 b hb).1.2.2.2.2.2⟩
        have none5 : H5 s3.heap.objs.size = none := by rw [← cL]; exact I6.free
        obtain ⟨m, hn, _⟩ := I6.loc
        have hn : s6.heap.Ns s3.heap.objs.size m := by rw [← cL]; exact hn
        refine ⟨m, hn, fun h'' sb => ?_⟩
        obtain ⟨f0, f1, f2', f4, f5, f6⟩ := I3.fpOk (Nat.le_refl _) none5
        exact ⟨.ref D, H5, I7.turned (t' := s6.toks) (fun b o hb e => (sb.2 b hb).trans e) f0 f1 f4 f5 f6, rfl, qq⟩
      · refine thnF (T.item (X.blk s3 H3 scope ce fp) rfl rfl rfl calm i [] s5 _ H5 (fun _ _ => False) I5 (still I5 n5) st5 go) fun r s6 ⟨u, hr, q6⟩ => ?_
        subst hr
        refine thnF q6 fun _ s7 ⟨x, H7, I7, r7, y7, st7, n7⟩ => ?_
        refine thnF (pg.run _ s7 _ H7 x u _ (I7.pinned (still I7 n7) (T.obj _ _ st7)) r7 (step x H7 y7)) fun _ s8 ⟨σ8, H8, I8, hw8, q8⟩ => ?_
        refine thnF (pt.run _ s8 σ8 H8 _ I8 q8) fun b s9 ⟨H9, I9, q9⟩ => ?_
        have fin : ∀ {s' : Shared} {H' : Hp}, L2.Inv (X.blk s3 H3 scope ce fp) ([] ++ pinsAt fp s7.heap) σ8 H' s' → Nx H' → ∃ m, m < n ∧ ∃ i H', L2.Inv (X.blk s3 H3 scope ce fp) [] (L2.wipe σ (own.map (·.2))) H' s' ∧ tn i s'.heap ∧ (∀ b ∈ fp, H' b = none) ∧ Wi i m H' := fun {s' H'} I' nx => by
          obtain ⟨m', hm, w'⟩ := hNx H' nx
          have pin : ∀ b ∈ fp, ∀ o, s7.heap.get? b = some o → s'.heap.get? b = some o ∧ H' b = none := fun b hb o e => by
            have z := I'.pin (b, o) (List.mem_append_right _ (List.mem_append_right _ (mem_pinsAt hb e)))
            exact ⟨z.1, z.2.1⟩
          refine ⟨m', hm, i + 1, H', (I'.unpinned (pins := [])).weak (by rw [← hw8, wipe_length]) (fun j v e => ?_), T.keep _ _ _ st7 fun b hb o e => (pin b hb o e).1, fun b hb => ?_, w'⟩
          · rw [← hw8] at e
            exact (wipe_some e).1
          · obtain ⟨o, e, _⟩ := T.obj _ _ st7 b hb
            exact (pin b hb o e).2
        cases b with
        | false => exact fin I9 (by simpa using q9)
        | true =>
          simp only [if_true] at q9
          refine thnF (pk.run _ s9 σ8 H9 _ I9 q9) fun z s10 ⟨yk, H10, I10, r10, q10⟩ => ?_
          refine thnF (pv.run _ s10 σ8 H10 _ I10 q10) fun z2 s11 ⟨yv, H11, I11, r11, W, b', xs, es, q, p, ek, hw, hD11, rn, rq, hq, hz, nx⟩ => ?_
          subst ek
          cases (show z = Value.ref p from r10)
          haveI : Lk (X.blk s3 H3 scope ce fp).w := (inferInstance : Lk X.w)
          exact nd_dictSet (X := X.blk s3 H3 scope ce fp) (show NRoom X.A from room) I11 hw hD11 rn rq hq hz r11 fun s12 I12 => fin I12 nx
    exact codeAny_compStart_dict loop (T.self X.A 0 _ _ _ st4 loop)
  rw [← hcl] at goal
  subst hs3
  exact goal
end
section
variable {P : Program} {w : World} {K : PySem.W.Frag} {mg : Str → Option Value} {base : Heap} {N : List Str} {sc : Scope} {k : Nat}
variable {F : Fam P w K mg base N sc k} {C : Ctx}
theorem dcompT_run {J : It} {ds : List D} {G : Wd → Hp → Prop} {vs : List Nat} {g : WG} {wt : WT} {we wf : WE} {tg : TG} {tt : TT} {te tf : TE} {Γ : Gam} {σ : L2.St} {W1 : Wd} {H1 : Hp} {q : List (D × D) → Prop} {Q : VK} {A : Addr}
    (wl : Wlk K J ds G) (st : ∀ W' H', W1.Le W' → Sta K C Γ σ W' H' → G W' H') (s : Sta K C Γ σ W1 H1) (nA : H1 A = none)
    (hg : ∀ C Γ σ W H v d (q : Gam → Prop) (Q : L2.St → Hp → Prop), Sta K C Γ σ W H → Rep K W v d → g d Γ q → (∀ Γ' σ' W' H', q Γ' → Ext W H W' H' → Sta K C Γ' σ' W' H' → L2.wipe σ' vs = L2.wipe σ vs → Q σ' H') → tg v σ H Q)
    (ht : ∀ C Γ σ W H (q : Bool → Prop) (Q : Bool → Hp → Prop), Sta K C Γ σ W H → wt Γ q → (∀ b W' H', q b → Ext W H W' H' → Q b H') → tt σ H Q)
    (he : ∀ C Γ σ W H (q : D → Prop) (Q : VK), Sta K C Γ σ W H → we Γ q → (∀ v d W' H', q d → Ext W H W' H' → Rep K W' v d → Q v H') → te σ H Q)
    (hf : ∀ C Γ σ W H (q : D → Prop) (Q : VK), Sta K C Γ σ W H → wf Γ q → (∀ v d W' H', q d → Ext W H W' H' → Rep K W' v d → Q v H') → tf σ H Q)
    (hw : dcompT g wt we wf (wipeD Γ vs) q ds []) (fin : ∀ acc W' H', q acc → Ext W1 H1 W' H' → New K W1 H1 W' H' (.ref A) (.dit acc) → Q (.ref A) H') :
    ∃ Wi : Nat → Nat → Hp → Prop, (∃ m, Wi 0 m (L2.upd H1 A (NdO A []))) ∧ TurnsN K J tg tt te tf vs σ A Wi fun H => Q (.ref A) H := by
  obtain ⟨x0, nB, nP⟩ := Ext.upd (o := NdO A []) s.holds nA
  refine ⟨fun i m H => m = ds.length - i ∧ i ≤ ds.length ∧ ∃ (W : Wd) (acc : List (D × D)) (b : Addr) (xsA : List NE), Ext W1 H1 W H ∧ W.B A = none ∧ ¬ W.P A ∧ H A = some (NdO b xsA) ∧ RepN K W xsA acc ∧ dcompT g wt we wf (wipeD Γ vs) q (ds.drop i) acc,
    ⟨ds.length, by simp, Nat.zero_le _, W1, [], A, [], x0, nB, nP, L2.upd_same, .nil, hw⟩, ?_⟩
  rintro i m H ⟨rfl, hi, W, acc, b0, xsA, x, bA, pA, hA, rA, hc⟩
  have sW : Sta K C Γ σ W H := s.ext x
  have gW := st W H x.le sW
  by_cases hlt : i < ds.length
  · rw [List.drop_eq_getElem_cons hlt] at hc
    refine .inr ⟨wl.go i W H gW x.holds hlt, fun H' => ∃ (W : Wd) (acc : List (D × D)) (b : Addr) (xsA : List NE), Ext W1 H1 W H' ∧ W.B A = none ∧ ¬ W.P A ∧ H' A = some (NdO b xsA) ∧ RepN K W xsA acc ∧ dcompT g wt we wf (wipeD Γ vs) q (ds.drop (i + 1)) acc, fun H' h' => ⟨ds.length - (i + 1), by omega, rfl, hlt, h'⟩, fun v H' y => ?_⟩
    obtain ⟨W2, x2, r2⟩ := wl.yld i _ W H v H' (List.getElem?_eq_getElem hlt) gW x.holds y
    have stay : ∀ {W' : Wd} {H' : Hp}, Ext W H W' H' → H' A = some (NdO b0 xsA) ∧ W'.B A = none ∧ ¬ W'.P A := fun {W' H'} x' => by
      refine ⟨x'.fr _ _ hA pA, ?_, x'.npool (by rw [hA]; exact fun q => nomatch q) pA⟩
      cases e : W'.B A with
      | none => rfl
      | some u =>
        rcases x'.nb A u e with e | ⟨n, _⟩
        · rw [bA] at e; cases e
        · rw [n] at hA; cases hA
    refine hg C _ _ W2 H' v _ _ _ ((sW.wipe vs).ext x2) r2 hc fun Γ3 σ3 W3 H3 hq3 x3 s3 e3 => ⟨e3.trans (wipe_wipe _ _), ?_⟩
    have x13 := x2.trans x.holds x3
    refine ht C Γ3 σ3 W3 H3 _ _ s3 hq3 fun b W4 H4 hq4 x4 => ?_
    have x14 := x13.trans x.holds x4
    cases b with
    | false =>
      refine iteF ?_
      obtain ⟨h1, h2, h3⟩ := stay x14
      exact ⟨W4, acc, b0, xsA, x.trans s.holds x14, h2, h3, h1, rA.le x14.le, by simpa using hq4⟩
    | true =>
      refine iteT ?_
      refine he C Γ3 σ3 W4 H4 _ _ (s3.ext x4) (by simpa using hq4) fun u d W5 H5 hq5 x5 r5 => ?_
      have x15' := x14.trans x.holds x5
      refine hf C Γ3 σ3 W5 H5 _ _ ((s3.ext x4).ext x5) hq5 fun u2 d2 W6 H6 hq6 x6 r6 => ?_
      have x15 := x15'.trans x.holds x6
      obtain ⟨h1, h2, h3⟩ := stay x15
      have rk := r5.le x6.le
      obtain ⟨kp, rfl⟩ := key_ref rk hq6.1.1
      have rA' := rA.le x15.le
      refine ⟨W6, b0, xsA, acc, d, kp, rfl, x15.holds, h1, rA', rk, hq6.1.1, by rw [rA.length, ← SZ_eq]; exact hq6.1.2, W6, put acc d d2, A, putN xsA (nk d) kp u2, ?_, h2, h3, L2.upd_same, rA'.put2 hq6.1.1 rk r6, hq6.2⟩
      have xx := x.trans s.holds x15
      refine ⟨xx.le, fun a o e => ?_, xx.np, ⟨fun a o e => ?_, fun a p => ?_⟩, fun a o e p => ?_⟩
      · rcases xx.nb a o e with q | ⟨q1, q2⟩
        · exact .inl q
        · exact .inr ⟨q1, by rw [L2.upd_ne (fun z => by rw [z, h2] at e; cases e)]; exact q2⟩
      · have ha : a ≠ A := fun z => by rw [z, h2] at e; cases e
        rcases xx.holds.b a o e with q | ⟨m, ob, q⟩
        · exact .inl (by rw [L2.upd_ne ha]; exact q)
        · exact .inr ⟨m, ob, by rw [L2.upd_ne ha]; exact q⟩
      · have ha : a ≠ A := fun z => h3 (by rw [← z]; exact p)
        obtain ⟨⟨x', y', z', e, r⟩, b⟩ := xx.holds.p a p
        exact ⟨⟨x', y', z', by rw [L2.upd_ne ha]; exact e, r⟩, b⟩
      · rw [L2.upd_ne (fun z => by rw [z, nA] at e; cases e)]
        exact xx.fr a o e p
  · have e : i = ds.length := by omega
    subst e
    rw [List.drop_length] at hc
    exact .inl ⟨wl.stop W H gW x.holds, fin acc W H hc x (.inr ⟨A, _, rfl, nA, bA, pA, hA, .dn rA⟩)⟩
section
variable {elt kx tg : Expr} {ifs : List Expr} {scope : Scope} {own : List (Str × Nat)} {pos px : Pos} {g : WG} {wt : WT} {we wk : WE} {x : Str}
theorem pe_dcN' [Lk w] {iter : Expr} {wi : TI} {tgt : TG} {tt : TT} {tk te : TE} (ok : blkC N sc scope own = true) (hi : ∀ j, PI (F.X j) tg iter wi) (hs : ∀ (j : F.ι) x, foldedSetIterable iter (F.X j).env x = pure x)
    (g1 : ∀ (i : (F.blk scope).ι), PG ((F.blk scope).X i) tg tgt) (t1 : ∀ (i : (F.blk scope).ι), PTs ((F.blk scope).X i) ifs tt) (k1 : ∀ (i : (F.blk scope).ι), PE ((F.blk scope).X i) kx tk) (e1 : ∀ (i : (F.blk scope).ι), PE ((F.blk scope).X i) elt te) (j : F.ι) :
    PE (F.X j) (.DictComp kx elt [⟨tg, iter, ifs, 0⟩] scope pos) (tDcN K wi tgt tt tk te (own.map (·.2))) := by
  haveI : Lk (F.X j).w := by rw [F.w']; infer_instance
  have := pe_dcN (pos := pos) (nroom (F.room j)) (F.calm j) (by rw [F.N']; exact F.nd) (hi j) (blk_ok ok j) (fun s H A cl fp => g1 (j, s, H, A, cl, fp)) (fun s H A cl fp => t1 (j, s, H, A, cl, fp)) (fun s H A cl fp => k1 (j, s, H, A, cl, fp)) (fun s H A cl fp => e1 (j, s, H, A, cl, fp)) (hs j)
  rw [F.K'] at this
  exact this
theorem ef_dcompKT [Lk w] (i : Nat) (ok : blkC N sc scope own = true) (hg : EGo (F.blk scope) (own.map (·.2)) tg g) (ht : EPts (F.blk scope) ifs wt) (hkx : EX (F.blk scope) kx wk) (he : EX (F.blk scope) elt we) (hN : N[i]? = some x := by rfl) (hv : Vis sc x := by first | exact Or.inl rfl | exact Or.inr (Or.inl rfl) | exact Or.inr (Or.inr rfl)) (hd : (x == ("__debug__" : Str)) = false := by decide) (hcd : (x == ("__classdict__" : Str)) = false := by decide)
    (hs : ∀ (j : F.ι) z, foldedSetIterable (.Name x px) (F.X j).env z = pure z := by intro _ _; rfl) : EF F (.DictComp kx elt [⟨tg, .Name x px, ifs, 0⟩] scope pos) (wDCompT (own.map (·.2)) (wKeys i) g wt wk we) := by
  obtain ⟨tgt, g1, g2⟩ := hg
  obtain ⟨tt, t1, t2⟩ := ht
  obtain ⟨tk, k1, k2⟩ := hkx
  obtain ⟨te, e1, e2⟩ := he
  refine lock_core (i := i) (ti := iKeysA (tVar i)) (wc := fun _ _ _ => True) (x := x) (px := px) (fun j => pe_dcN' ok (fun j => pi_keysA (pe_slot (F := F) (pos := px) hN hv hd hcd j)) hs g1 t1 k1 e1 j) (fun C Γ σ W H q Q d od u es s hd eσ r hw he0 c => ?_) fun Γ q hw => ?_
  · have hw' : dicIt Γ[i]? _ := hw
    obtain ⟨J, kj, wl⟩ := wlk_keys (od := od) (d := d) r
    refine ⟨_, eσ, d, od, u, J, rfl, hd Γ σ W H (.refl W) s, kj, fun A nA => ?_⟩
    have hq0 := dicIt_q hw' he0
    exact dcompT_run wl (fun W' H' l s' => ⟨hd Γ σ W' H' l s', l⟩) s nA g2 t2 k2 e2 hq0 fun acc W' H' hq' x' n => c _ _ W' H' hq' x' n
  · have hw' : dicIt Γ[i]? _ := hw
    obtain ⟨es, h1, _⟩ := dicIt_of hw'
    exact ⟨es, h1⟩
end
end
end DL

/-! DPool: defs as callees, the pool of draws, the law's own def. -/
namespace DL
open PySem PySem.Spec PyProof.Rows L2
variable [WW]
section
variable {P : Program} {w : World} {K : PySem.W.Frag} {mg : Str → Option Value} {base : Heap} {N : List Str} {sc : Scope} {k : Nat}
variable {F : Fam P w K mg base N sc k}

/-- the def named x keeps its promise -/
structure Cal (P : Program) (w : World) (K : PySem.W.Frag) (mg : Str → Option Value) (base : Heap) (k : Nat) (x : Str) (ms : List Bool) (rk : RK) (sp : Spec) : Prop where
  ex : ∃ f fd ps, mg x = some (.ref f) ∧ PySem.W.keepIn K (.ref f) = true ∧ Binds K fd ps [] ∧ FnOk P w K mg base CX0 k f fd ps (SpD K ms rk sp)
/-- where a def stands -/
structure DefAt (K : PySem.W.Frag) (mg : Str → Option Value) (x : String) (st : Stmt) (ps : List Str) (f : Addr) (fd : FuncData) : Prop where
  fn : Fun K x x st f fd
  mg : mg x = some (.ref f)
  bi : Binds K fd ps []
theorem DefAt.cal {x : String} {st : Stmt} {ps : List Str} {f : Addr} {fd : FuncData} {ms : List Bool} {rk : RK} {sp : Spec} (h : DefAt K mg x st ps f fd) (ok : FnOk P w K mg base CX0 k f fd ps (SpD K ms rk sp)) : Cal P w K mg base k x ms rk sp := ⟨f, fd, ps, h.mg, h.fn.kp, h.bi, ok⟩
/-- a def by its body -/
theorem cal_of {x : String} {st : Stmt} {ps N : List Str} {f : Addr} {fd : FuncData} (h : DefAt K mg x st ps f fd) (S : FnScope N ps (defScope st)) (ms : List Bool) (rk : RK) (sp : Spec) (b : WS) (hm : ms.length = ps.length)
    (body : ∀ (cdv : Value) (A : Around) (outer : List Env) (s : Shared) (H : Hp) (E : XK) (hr : Room k (A.deeper (envOfC x (defScope st) s.heap.objs.size f cdv))),
      SXs (Fam.ofDef (P := P) (w := w) (K := K) (mg := mg) (base := base) x x st S f cdv A outer s H E hr) rk (defBody st) b)
    (vc : ∀ ds, ds.length = ms.length → sp.pre ds → b { nx := fun _ => sp.post ds .non, rt := sp.post ds } (startD ms ds (N.length - ps.length))) : Cal P w K mg base (k + 1) x ms rk sp :=
  h.cal (def_ok h.fn S ms rk sp b hm body vc)
theorem Cal.mono {j : Nat} {x : Str} {ms : List Bool} {rk : RK} {sp : Spec} (c : Cal P w K mg base j x ms rk sp) (h : j ≤ k) : Cal P w K mg base k x ms rk sp := by
  obtain ⟨f, fd, ps, a, b, c, d⟩ := c
  exact ⟨f, fd, ps, a, b, c, d.mono h⟩
/-- a promise of less -/
theorem Cal.imp {x : Str} {ms : List Bool} {rk : RK} {sp sp' : Spec} (c : Cal P w K mg base k x ms rk sp) (h : ∀ ds, sp'.pre ds → sp.pre ds ∧ ∀ d, sp.post ds d → sp'.post ds d) : Cal P w K mg base k x ms rk sp' := by
  obtain ⟨f, fd, ps, a, b, c, d⟩ := c
  refine ⟨f, fd, ps, a, b, c, d.imp fun vs H Q E q => ?_⟩
  obtain ⟨W, ds, hw, ar, pre, post⟩ := q
  obtain ⟨p1, p2⟩ := h ds pre
  exact ⟨W, ds, hw, ar, p1, fun v d W' H' hp x y => post v d W' H' (p2 d hp) x y⟩
/-- no call can be: the base of a recursion -/
theorem cal_never {x : String} {st : Stmt} {ps : List Str} {f : Addr} {fd : FuncData} {ms : List Bool} {rk : RK} {sp : Spec} (h : DefAt K mg x st ps f fd) (hn : ∀ ds, ¬ sp.pre ds) : Cal P w K mg base k x ms rk sp :=
  h.cal ⟨fun vs H Q E q => by
    obtain ⟨W, ds, _, _, pre, _⟩ := q
    exact (hn ds pre).elim, fun A outer s H args us vs Q E _ _ _ _ q => by
    obtain ⟨W, ds, _, _, pre, _⟩ := q
    exact (hn ds pre).elim⟩
section
variable {ms : List Bool} {sp : Spec} {k' : Nat} {x : Str} {p pos : Pos} {e : Expr} {es : List Expr} {wa : WA}
theorem ex_calC (c : Cal P w K mg base k' x ms .sh sp) (ha : EA F ms (e :: es) wa) (hl : k' ≤ k := by decide) (hg : GlS sc x := by rfl) (hdb : (x == ("__debug__" : Str)) = false := by decide)
    (hs : ∀ j : F.ι, starEach (e :: es) (F.X j).env = (false, eval e (F.X j).env) :: starEach es (F.X j).env := by intro _; rfl) (hpl : ∀ j : F.ι, (backTo pos (starEach es (F.X j).env)).any (·.1) = false := by intro _; rfl) :
    EX F (.Call (.Name x p) (e :: es) [] pos) (wCall sp wa) := by
  obtain ⟨f, fd, ps, h1, h2, h3, h4⟩ := c
  exact ex_call h4 h1 h2 h3 ha hl hg hdb hs hpl
theorem ef_calC (c : Cal P w K mg base k' x ms .fr sp) (ha : EA F ms (e :: es) wa) (hl : k' ≤ k := by decide) (hg : GlS sc x := by rfl) (hdb : (x == ("__debug__" : Str)) = false := by decide)
    (hs : ∀ j : F.ι, starEach (e :: es) (F.X j).env = (false, eval e (F.X j).env) :: starEach es (F.X j).env := by intro _; rfl) (hpl : ∀ j : F.ι, (backTo pos (starEach es (F.X j).env)).any (·.1) = false := by intro _; rfl) :
    EF F (.Call (.Name x p) (e :: es) [] pos) (wCall sp wa) := by
  obtain ⟨f, fd, ps, h1, h2, h3, h4⟩ := c
  exact ef_call h4 h1 h2 h3 ha hl hg hdb hs hpl
end

/-! ### the pool -/
def drawIx (K : PySem.W.Frag) (i : Int) : TE := tOp (rIxL K) (tVar 0) (tC (.int i))
def drawE (K : PySem.W.Frag) : TE := tOp (rI (fun _ j => 0 < j) fun i j => .int (i % j)) (tCB (fun xs H Q => (∃ i, xs = [.int i] ∧ Q (.int i) H) ∨ ∃ k, xs = [.bl k] ∧ Q (.int (if k then 1 else 0)) H) (tCons (tOp (rI CDiv fun i j => .int (i / j)) (tOp (rI (fun _ j => 0 < j) fun i j => .int (i % j)) (tCB (fun xs H Q => (∃ i, xs = [.int i] ∧ Q (.int i) H) ∨ ∃ k, xs = [.bl k] ∧ Q (.int (if k then 1 else 0)) H) (tCons (tOp (rI0 fun i j => .int (i + j)) (tOp (rI CMul fun i j => .int (i * j)) (tVar 3) (tVar 3)) (drawIx K 1)) tNil)) (tC (.int 2147483563))) (tC (.int 8))) tNil)) (tVar 1)
def drawT (K : PySem.W.Frag) : TS :=
  tSeq (tIfS (tTest (tOp (rI0 fun i j => .bl (decide (j < i))) (drawIx K 0) (tC (.int 0))))
    (tSeq (tAsg (tOp (rI (fun _ j => 0 < j) fun i j => .int (i % j)) (tCB (fun xs H Q => (∃ i, xs = [.int i] ∧ Q (.int i) H) ∨ ∃ k, xs = [.bl k] ∧ Q (.int (if k then 1 else 0)) H) (tCons (drawIx K 0) tNil)) (tVar 1)) (gName 2))
      (tSeq (tAsg (tOp (rI CDiv fun i j => .int (i / j)) (drawIx K 0) (tVar 1)) (gSub (tVar 0) (tC (.int 0)) rSetL)) (tRet (tVar 2)))) tNext)
  (tSeq (tAsg (tOp (rI0 fun i j => .int (i + j)) (drawIx K 2) (tC (.int 1))) (gSub (tVar 0) (tC (.int 2)) rSetL))
  (tSeq (tAsg (tOp (rI (fun _ j => 0 < j) fun i j => .int (i % j)) (tCB (fun xs H Q => (∃ i, xs = [.int i] ∧ Q (.int i) H) ∨ ∃ k, xs = [.bl k] ∧ Q (.int (if k then 1 else 0)) H) (tCons (tOp (rI0 fun i j => .int (i + j)) (drawIx K 1) (tOp (rI CMul fun i j => .int (i * j)) (drawIx K 2) (tC (.int 7919)))) tNil)) (tC (.int 2147483629))) (gName 3))
  (tSeq (tAsg (tOp (rI (fun _ j => 0 < j) fun i j => .int (i % j)) (tCB (fun xs H Q => (∃ i, xs = [.int i] ∧ Q (.int i) H) ∨ ∃ k, xs = [.bl k] ∧ Q (.int (if k then 1 else 0)) H) (tCons (tOp (rI0 fun i j => .int (i + j)) (tOp (rI0 fun i j => .int (i + j)) (tOp (rI CMul fun i j => .int (i * j)) (tVar 3) (tVar 3)) (tOp (rI CMul fun i j => .int (i * j)) (drawIx K 2) (tC (.int 104729)))) (tC (.int 12345))) tNil)) (tC (.int 2147483587))) (gName 3))
  (tRet (drawE K)))))
theorem draw_run {W : Wd} {H : Hp} {a : Addr} {m : Int} {nx : L2.St → Hp → Prop} {Q : VK} (hw : Holds W H) (hp : W.P a) (m0 : 0 < m) (m1 : m < 1073741824)
    (post : ∀ r H', 0 ≤ r → r < m → Ext W H W H' → Q (.int r) H') : drawT K { nx := nx, rt := Q } [some (.ref a), some (.int m), none, none] H := by
  obtain ⟨⟨x, y, z, e, x0, y0, y1, z0⟩, hB⟩ := hw.p a hp
  -- the pool is changed
  have put : ∀ (H1 : Hp) (x' y' z' : Int), (∀ b, b ≠ a → H1 b = H b) → H1 a = some (.lst [.int x', .int y', .int z']) → 0 ≤ x' → 0 ≤ y' → y' < 2 ^ 32 → 0 ≤ z' → Ext W H W H1 := fun H1 x' y' z' hb ha q1 q2 q3 q4 => by
    refine ⟨.refl W, fun _ _ q => .inl q, fun _ q => .inl q, ⟨fun b o q => ?_, fun b q => ?_⟩, fun b o q n => ?_⟩
    · have hba : b ≠ a := fun z => by rw [z, hB] at q; cases q
      rcases hw.b b o q with r | ⟨mm, ob, r⟩
      · exact .inl (by rw [hb b hba]; exact r)
      · exact .inr ⟨mm, ob, by rw [hb b hba]; exact r⟩
    · by_cases hba : b = a
      · subst hba
        exact ⟨⟨x', y', z', ha, q1, q2, q3, q4⟩, hB⟩
      · obtain ⟨⟨u1, u2, u3, r, rr⟩, bb⟩ := hw.p b q
        exact ⟨⟨u1, u2, u3, by rw [hb b hba]; exact r, rr⟩, bb⟩
    · rw [hb b fun z => n (by rw [z]; exact hp)]
      exact q
  refine ⟨.ref a, rfl, ⟨a, _, 0, .int x, rfl, rfl, .of e, rfl, x, 0, rfl, rfl, _, rfl, ite2 (fun h => ?_) fun h => ?_⟩⟩
  · have hx : 0 < x := of_decide_eq_true h
    refine ⟨.ref a, rfl, ⟨a, _, 0, .int x, rfl, rfl, .of e, rfl, .inl ⟨x, rfl, .int m, rfl, x, m, rfl, rfl, m0, ?_⟩⟩⟩
    refine ⟨.ref a, rfl, ⟨a, _, 0, .int x, rfl, rfl, .of e, rfl, .int m, rfl, x, m, rfl, rfl, ⟨m0, m1⟩, ?_⟩⟩
    refine ⟨.ref a, rfl, a, _, 0, 0, rfl, rfl, e, rfl, ?_⟩
    refine ⟨.int (x % m), rfl, post (x % m) _ (Int.emod_nonneg _ (by omega)) (Int.emod_lt_of_pos _ m0) ?_⟩
    exact put _ (x / m) y z (fun b hb => L2.upd_ne hb) L2.upd_same (Int.ediv_nonneg x0 (by omega)) y0 y1 z0
  · refine ⟨.ref a, rfl, ⟨a, _, 2, .int z, rfl, rfl, .of e, rfl, z, 1, rfl, rfl, ?_⟩⟩
    refine ⟨.ref a, rfl, a, _, 2, 2, rfl, rfl, e, rfl, ?_⟩
    have e2 : (L2.upd H a (.lst ([V.int x, V.int y, V.int z].set 2 (.int (z + 1))))) a = some (.lst [.int x, .int y, .int (z + 1)]) := L2.upd_same
    generalize hH : L2.upd H a (.lst ([V.int x, V.int y, V.int z].set 2 (.int (z + 1)))) = H1 at e2
    have hb : ∀ b, b ≠ a → H1 b = H b := fun b hb => by rw [← hH]; exact L2.upd_ne hb
    have small : ∀ i : Int, 0 ≤ i → i < 2147483648 → CMul i i := fun i h1 h2 => .inl ⟨by omega, by omega⟩
    -- mixed, twice
    have pos : ∀ i : Int, 0 < i → (fun (_ j : Int) => 0 < j) 0 i := fun _ h => h
    refine ⟨.ref a, rfl, ⟨a, _, 1, .int y, rfl, rfl, .of e2, rfl, .ref a, rfl, ⟨a, _, 2, .int (z + 1), rfl, rfl, .of e2, rfl, z + 1, 7919, rfl, rfl, .inr ⟨by decide, by decide⟩, y, (z + 1) * 7919, rfl, rfl, .inl ⟨_, rfl, _, 2147483629, rfl, rfl, pos 2147483629 (by decide), ?_⟩⟩⟩⟩
    obtain ⟨mx, hm, h0, h1⟩ : ∃ mx : Int, (y + (z + 1) * 7919) % 2147483629 = mx ∧ 0 ≤ mx ∧ mx < 2147483629 := ⟨_, rfl, Int.emod_nonneg _ (by decide), Int.emod_lt_of_pos _ (by decide)⟩
    show tSeq _ _ _ [some (.ref a), some (.int m), none, some (.int ((y + (z + 1) * 7919) % 2147483629))] H1
    rw [hm]
    refine ⟨.int mx, rfl, .int mx, rfl, mx, mx, rfl, rfl, small mx h0 (by omega), .ref a, rfl, ⟨a, _, 2, .int (z + 1), rfl, rfl, .of e2, rfl, z + 1, 104729, rfl, rfl, .inr ⟨by decide, by decide⟩, _, _, rfl, rfl, _, 12345, rfl, rfl, .inl ⟨_, rfl, _, 2147483587, rfl, rfl, pos 2147483587 (by decide), ?_⟩⟩⟩
    refine (fun my g0 g1 => ?_ : ∀ my : Int, 0 ≤ my → my < 2147483587 → tRet (drawE K) { nx := nx, rt := Q } [some (.ref a), some (.int m), none, some (.int my)] H1) _ (Int.emod_nonneg _ (by decide)) (Int.emod_lt_of_pos _ (by decide))
    refine ⟨.int my, rfl, .int my, rfl, my, my, rfl, rfl, small my g0 (by omega), .ref a, rfl, ⟨a, _, 1, .int y, rfl, rfl, .of e2, rfl, _, _, rfl, rfl, .inl ⟨_, rfl, _, 2147483563, rfl, rfl, pos 2147483563 (by decide), _, 8, rfl, rfl, ⟨by decide, by decide⟩, .inl ⟨_, rfl, .int m, rfl, _, m, rfl, rfl, m0, ?_⟩⟩⟩⟩
    exact post _ H1 (Int.emod_nonneg _ (by omega)) (Int.emod_lt_of_pos _ m0) (put H1 x y (z + 1) hb e2 x0 y0 y1 (by omega))
/-- the draw's def: its body as a term of rules -/
theorem draw_ok {st : Stmt} {f : Addr} {fd : FuncData} (h : DefAt K mg "_law_draw" st ["pool", "many"] f fd) (S : FnScope ["pool", "many", "told", "mixed"] ["pool", "many"] (defScope st))
    (body : ∀ (cdv : Value) (A : Around) (outer : List Env) (s : Shared) (H : Hp) (E : XK) (hr : Room k (A.deeper (envOfC "_law_draw" (defScope st) s.heap.objs.size f cdv))),
      PSs (cxOf CX0 P w K mg base ["pool", "many", "told", "mixed"] "_law_draw" (defScope st) f cdv A outer s H E).nox (defBody st) (drawT K)) : Cal P w K mg base (k + 1) "_law_draw" [false, false] .sh S_draw := by
  refine h.cal (h.fn.ok S (fun vs H Q E q => ?_) fun cdv A outer s H vs Q E hr q => ?_)
  · obtain ⟨W, ds, _, ar, _⟩ := q
    exact ar.len.1
  · obtain ⟨W, ds, hw, ar, ⟨m, rfl, m0, m1⟩, post⟩ := q
    obtain ⟨v, u, rfl, r1, r2⟩ := ar.two
    refine ⟨_, body cdv A outer s H E hr, ?_⟩
    rw [r2.int]
    have r1 := r1.rep_flat rfl
    cases r1 with
    | tok hp =>
      exact draw_run hw hp m0 m1 fun r H' h0 h1 x => post (.int r) (.int r) W H' ⟨m, r, rfl, rfl, h0, h1⟩ x (.int r)

/-! ### the pool is made -/
/-- a new list of three ints is a pool from now on -/
theorem pool_ok {x : Str} {ms : List Bool} (c : Cal P w K mg base k x ms .fr S_pool0) : Cal P w K mg base k x ms .sh S_pool := by
  obtain ⟨f, fd, ps, a, b, c, d⟩ := c
  refine ⟨f, fd, ps, a, b, c, d.imp fun vs H Q E q => ?_⟩
  obtain ⟨W, ds, hw, ar, pre, post⟩ := q
  refine ⟨W, ds, hw, ar, pre, fun v d W' H' hp xx n => ?_⟩
  obtain ⟨x, y, rfl, x0, y0, y1⟩ := hp
  rcases n with ⟨q, _⟩ | ⟨p, o, rfl, nH, nB, nP, ho, r⟩
  · cases q
  · refine post (.ref p) .tok ⟨W'.B, fun b => W'.P b ∨ b = p⟩ H' rfl ?_ (.tok (.inr rfl))
    cases r with
    | lst r =>
      cases r with
      | cons r1 r => cases r with
        | cons r2 r => cases r with
          | cons r3 r =>
            cases r; cases r1; cases r2; cases r3
            refine ⟨⟨xx.le.b, fun b q => .inl (xx.le.p b q)⟩, xx.nb, fun b q => ?_, ⟨xx.holds.b, fun b q => ?_⟩, xx.fr⟩
            · rcases q with q | rfl
              · exact xx.np b q
              · exact .inr nH
            · rcases q with q | rfl
              · exact xx.holds.p b q
              · exact ⟨⟨x, y, 0, ho, x0, y0, y1, Int.le_refl _⟩, nB⟩

/-! ### the law's own def -/
def spLaw (K : PySem.W.Frag) : Sp := fun vs H Q _ => ∃ (a : Addr) (ns : List Int), vs = [.ref a] ∧ SqL K H a (ns.map V.int) ∧ ns.length ≤ 63 ∧ ∀ H', Q (.bl true) H'
theorem law_sp {ms : List Bool} (hm : ms = [true] ∨ ms = [false]) : ∀ (vs : List V) (H : Hp) (Q : VK) (E : XK), spLaw K vs H Q E → SpD K ms .sh S_law vs H Q E := by
  rintro vs H Q E ⟨a, ns, rfl, hS, hl, q⟩
  have r : Rep K ⟨fun b => if b = a then H a else none, fun _ => False⟩ (.ref a) (.scr (ns.map .int)) := by
    refine .scr (vs := ns.map V.int) ?_ (Reps.ints ns)
    rcases hS with (hS | ⟨o, hS⟩) | hS
    · exact .inl (.inl (by show (if a = a then H a else none) = _; rw [if_pos rfl]; exact hS))
    · exact .inl (.inr ⟨o, by show (if a = a then H a else none) = _; rw [if_pos rfl]; exact hS⟩)
    · exact .inr hS
  refine ⟨⟨fun b => if b = a then H a else none, fun _ => False⟩, [.scr (ns.map .int)], ⟨fun b o e => ?_, fun b q => q.elim⟩, ?_, ⟨ns, rfl, hl⟩, fun v d W' H' hp x rr => ?_⟩
  · have e : (if b = a then H a else none) = some o := e
    by_cases hb : b = a
    · rw [if_pos hb] at e
      rw [hb]
      exact .inl e
    · rw [if_neg hb] at e
      cases e
  · rcases hm with rfl | rfl
    · exact .sh r .nil
    · exact .bo (.rep r) .nil
  · have e : d = .bl true := hp
    subst e
    have rr : Rep K W' v (.bl true) := rr
    cases rr
    exact q H'

/-! ### is True, is False -/
theorem op_isBv {X : Cx} : OpR X (compareOp .Is) (fun x y H Q => ∃ b, y = .bl b ∧ (∀ n, x ≠ .ty n) ∧ (∀ n, x ≠ .flt n) ∧ (∀ n, x ≠ .byt n) ∧ Q (.bl (decide (x = .bl b))) H) := by
  intro pins s σ H x y v u Q I rx ry h
  obtain ⟨b, rfl, n1, n2, n3, q⟩ := h
  cases (show u = Value.bool b from ry)
  cases x with
  | non => cases rx; exact wpAny_is_plain rfl ⟨.bl _, H, I, rfl, q⟩
  | bl c =>
    cases rx
    refine wpAny_is_plain rfl ⟨.bl _, H, I, ?_, q⟩
    show Value.bool _ = Value.bool _
    cases b <;> cases c <;> rfl
  | int i => obtain ⟨t, rfl⟩ := rx; exact wpAny_is_plain rfl ⟨.bl _, H, I, rfl, q⟩
  | str z => obtain ⟨t, rfl⟩ := rx; exact wpAny_is_plain rfl ⟨.bl _, H, I, rfl, q⟩
  | ref a => cases rx; exact wpAny_is_plain rfl ⟨.bl _, H, I, rfl, q⟩
  | byt z => exact absurd rfl (n3 z)
  | flt z => exact absurd rfl (n2 z)
  | ty z => exact absurd rfl (n1 z)
theorem View.isBl {W : Wd} {H : Hp} {v : V} {d : D} {b : Bool} (h : View K W H v d) : decide (v = .bl b) = d.isBl b ∧ (∀ n, v ≠ .ty n) ∧ (∀ n, v ≠ .flt n) ∧ ∀ n, v ≠ .byt n := by
  cases h with
  | rep r =>
    cases r <;> first
      | exact ⟨rfl, fun _ e => (nomatch e), fun _ e => (nomatch e), fun _ e => (nomatch e)⟩
      | (rename_i c; exact ⟨by cases b <;> cases c <;> rfl, fun _ e => (nomatch e), fun _ e => (nomatch e), fun _ e => (nomatch e)⟩)
  | own _ _ r => cases r <;> exact ⟨rfl, fun _ e => (nomatch e), fun _ e => (nomatch e), fun _ e => (nomatch e)⟩
theorem ef_isB {a : Expr} {wa : WE} {b : Bool} {j2 : Nat} {p2 pos : Pos} (ha : EV F a wa) : EF F (.Compare a [.Is] [.Constant (.bool b) j2 p2] pos) (wIsB b wa) := by
  obtain ⟨ta, a1, a2⟩ := ha
  refine ⟨_, fun j => pe_cmpR op_isBv (a1 j) pe_bl (nomark _), fun C Γ σ W H q Q s hw c => ?_⟩
  refine a2 C Γ σ W H _ _ s hw fun v d W' H' hq x r => ?_
  obtain ⟨e1, e2, e3, e4⟩ := r.isBl (b := b)
  refine ⟨b, rfl, e2, e3, e4, ?_⟩
  rw [e1]
  exact c _ _ W' H' hq x (.inl ⟨rfl, .bl _⟩)
theorem et_isB {a : Expr} {wa : WE} {b : Bool} {j2 : Nat} {p2 pos : Pos} (ha : EV F a wa) : ET F (.Compare a [.Is] [.Constant (.bool b) j2 p2] pos) (wTest (wIsB b wa)) := by
  obtain ⟨ta, a1, a2⟩ := ha
  refine ⟨_, fun j => pt_cmpR op_isBv (a1 j) pe_bl (nomark _), fun C Γ σ W H q Q s hw c => ?_⟩
  refine a2 C Γ σ W H _ _ s hw fun v d W' H' hq x r => ?_
  obtain ⟨e1, e2, e3, e4⟩ := r.isBl (b := b)
  refine ⟨b, rfl, e2, e3, e4, ?_⟩
  rw [e1]
  exact ⟨_, rfl, c _ W' H' hq x⟩
end
end DL

/-! DSort: sorted with a key that a def gives. -/
namespace DL
open PySem PySem.Spec PyProof.Rows L2 PySem.Calls
variable [WW]
section
variable {X : Cx} {pins : List (Addr × Obj)} {σ : L2.St} {H : Hp} {s : Shared}
/-- a def called within two built-ins -/
theorem run_in2 {k : Nat} {f : Addr} {fd : FuncData} {ps : List Str} {sp : Sp} {Q : VK} {us : List Value} {vs : List V} {E : XK} (F : FnOk X.prog X.w X.K X.mg X.base CX0 k f fd ps sp) (hr : Room (k + 2) X.A) (hb : Binds X.K fd ps [])
    (I : L2.Inv X pins σ H s) (r : Vals vs us) (h : sp vs H Q E) : wpAny (model X.prog X.w) X.A.in1.in1 (call (.ref f) us) (EP X pins σ Q) (fun _ _ => False) s := by
  have hl : (us ++ []).length = ps.length := by rw [List.append_nil, ← r.length]; exact F.len _ _ _ _ h
  have b := hb s us I.kIn hl
  rw [List.append_nil] at b
  refine wpAny_call (codeAny_mono (F.run X.A.in1.in1 X.stack s H ⟨us, []⟩ us vs Q E hr.in1.in1 I.env0.in1.in1 b r h) fun r s' hq => ?_)
  cases r with
  | error e => exact hq
  | ok fl =>
    cases fl with
    | ret u => exact I.after hq
    | next => exact hq.elim
    | brk => exact hq.elim
    | cont => exact hq.elim

/-- the keys, one by one: a the list that is sorted, empty by now; c the list of keys -/
theorem keys_run {a c : Addr} {f : Value} {before : Nat} {xs : List V} {its : List Value} {P : PySem.Fin → Shared → Prop} {E : Value → Shared → Prop} (J : List V → Hp → Prop)
    (hv : Vals xs its) (hz : xs.length ≤ sizeLine)
    (turn : ∀ ks H1 s1 x u, xs[ks.length]? = some x → its[ks.length]? = some u → J ks H1 → H1 c = some (.lst ks) → L2.Inv X pins σ H1 s1 → wpAny (model X.prog X.w) X.A.in1.in1 (call f [u]) (EP X pins σ fun kv H2 => H2 c = some (.lst ks) ∧ J (ks ++ [kv]) (upd H2 c (.lst (ks ++ [kv])))) (fun _ _ => False) s1)
    (I : L2.Inv X pins σ H s) (h0 : J [] H) (hc : H c = some (.lst []))
    (rest : ∀ ks us e H1 s1, ks.length = xs.length → Vals ks us → J ks H1 → H1 c = some (.lst ks) → L2.Inv X pins σ H1 s1 → s1.heap.get? c = some (seqObj "list" us.toArray e) → wpAny (model X.prog X.w) X.A.in1.in1 (ksk_end a false its.toArray before (.ref c) us.toArray) P E s1) :
    wpAny (model X.prog X.w) X.A.in1.in1 (ksk_rest a f false its.toArray before (.ref c)) P E s := by
  unfold ksk_rest
  refine wpAny_bind (wpAny_rule ?_)
  rw [List.forIn_toArray]
  refine wpAny_bind (ksk_fold (fun i s' => ∃ ks H1, ks.length = i ∧ J ks H1 ∧ H1 c = some (.lst ks) ∧ L2.Inv X pins σ H1 s') its 0 s ⟨[], H, rfl, h0, hc, I⟩ ?step ?done)
  case step =>
    rintro j u s' hu ⟨ks, H1, hj, j1, hc1, I1⟩
    rw [Nat.zero_add] at hj
    have hlt : j < xs.length := by rw [hv.length]; exact (List.getElem?_eq_some_iff.mp hu).1
    refine wpAny_bind (wpAny_attempt (wpAny_mono (turn ks H1 s' xs[j] u (by rw [hj]; exact List.getElem?_eq_getElem hlt) (by rw [hj]; exact hu) j1 hc1 I1) (fun w s2 hw => ?_) fun _ _ x => x.elim))
    obtain ⟨kv, H2, I2, rk, hc2, j2⟩ := hw
    obtain ⟨z, is, n, ri, li, e⟩ := I2.lstM hc2
    dsimp only
    refine wpAny_bind (listUpdate_at (f := (·.push w)) e rfl ?_ (by rw [List.size_toArray, ← ri.length]; omega) (by rw [Array.size_push, List.size_toArray, ← ri.length]; omega))
    refine wpAny_pure ⟨rfl, ks ++ [kv], _, by rw [List.length_append, hj]; show j + 1 = 0 + j + 1; omega, j2, L2.upd_same, ?_⟩
    exact I2.lset (its' := is ++ [w]) hc2 e (by simp) (ri.append (.cons rk .nil)) (by rw [List.length_append, hj]; show j + 1 ≤ _; omega)
  case done =>
    rintro s' ⟨ks, H1, hj, j1, hc1, I1⟩
    obtain ⟨z, is, n, ri, li, e⟩ := I1.lstM hc1
    try dsimp only
    refine wpAny_bind (listItems_at e rfl ?_)
    exact rest ks is n H1 s' (by rw [hj, Nat.zero_add, hv.length]) ri j1 hc1 I1 e
/-- a list of ours that was not told of is told of -/
theorem inv_track {a : Addr} {xs : List V} {its : List Value} {n : Nat} (I : L2.Inv X pins σ H s) (hn : H a = none) (h0 : X.s_0.heap.objs.size ≤ a) (hl : a ≠ X.env.locals) (hp : ∀ p ∈ X.pn ++ pins, p.1 ≠ a)
    (hv : Vals xs its) (hz : xs.length ≤ sizeLine) (e : s.heap.get? a = some (seqObj "list" its.toArray n)) : L2.Inv X pins σ (upd H a (.lst xs)) s := by
  have ne : ∀ b u, H b = some u → b ≠ a := fun b u q z => by rw [z, hn] at q; cases q
  refine ⟨I.ok, I.os, I.bare, ⟨I.base.keep, I.base.slot, fun b o q n hx => ?_, I.base.there, fun b ys q => ?_, fun b o u q => ?_, fun b ps q => ?_⟩, I.loc, I.cell, ?_, fun x c q => ?_, fun p q => ?_, fun b u q => ?_, I.len⟩
  · rw [L2.upd_ne (Nat.ne_of_lt (Nat.lt_of_lt_of_le (Heap.lt_size q) h0))]
    exact I.base.free b o q n hx
  · have r := I.base.tups b ys q
    rw [L2.upd_ne (ne _ _ r)]; exact r
  · have r := I.base.frzs b o u q
    rw [L2.upd_ne (ne _ _ r)]; exact r
  · obtain ⟨more, r⟩ := I.base.tbls b ps q
    exact ⟨more, by rw [L2.upd_ne (ne _ _ r)]; exact r⟩
  · rw [L2.upd_ne hl.symm]; exact I.free
  · obtain ⟨v, o, ho, hd⟩ := I.cell x c q
    rw [L2.upd_ne fun z => ?_]
    · exact I.freeC x c q
    · rw [z, e] at ho
      cases ho
      cases hd
  · obtain ⟨q1, q2, q3⟩ := I.pin p q
    exact ⟨q1, by rw [L2.upd_ne (hp p q)]; exact q2, q3⟩
  · by_cases hb : b = a
    · subst hb
      rw [L2.upd_same] at q
      cases q
      exact ⟨hz, its, n, hv, e⟩
    · rw [L2.upd_ne hb] at q
      refine (I.hok b u q).stay (fun _ _ _ r => r) (fun c r => ?_) fun c ys r => ?_
      · rw [L2.upd_ne (ne _ _ r)]; exact r
      · rw [L2.upd_ne (ne _ _ r)]; exact r
theorem vals_ex : ∀ {us : List Value}, (∀ u ∈ us, ∃ x, L2.RelV x u) → ∃ zs, Vals zs us
  | [], _ => ⟨[], .nil⟩
  | u :: us, h => by
    obtain ⟨x, hx⟩ := h u (List.mem_cons_self ..)
    obtain ⟨zs, hz⟩ := vals_ex fun w hw => h w (List.mem_cons_of_mem _ hw)
    exact ⟨x :: zs, .cons hx hz⟩
theorem vals_has : ∀ {xs : List V} {us : List Value}, Vals xs us → ∀ u ∈ us, ∃ x, L2.RelV x u
  | _, _, .nil, u, h => (List.not_mem_nil h).elim
  | _, _, .cons hx r, u, h => by
    rcases List.mem_cons.mp h with e | h
    · subst e; exact ⟨_, hx⟩
    · exact vals_has r u h
theorem srtd_one {lt : Keyed → Keyed → Bool} {l : List Keyed} (h : l.length < 2) : SrtO.Srtd lt l := by
  match l, h with
  | [], _ => exact List.Pairwise.nil
  | [p], _ => exact List.pairwise_singleton _ _
  | _ :: _ :: _, h => exact absurd h (by simp)
/-- the items are laid back -/
theorem tail_run {a c : Addr} {before : Nat} {ks zs : List V} {Q : Value → Shared → Prop} {E : Value → Shared → Prop} {st : SortSt}
    (I : L2.Inv X (pins ++ [(a, seqObj "list" #[] before)]) σ H s) (hc : H c = some (.lst ks)) (hz : zs.length ≤ sizeLine) (hf : failedOf st = none) (hvz : Vals zs ((arrOf st).toList.map (·.2)))
    (ha0 : X.s_0.heap.objs.size ≤ a) (hap : ∀ p ∈ X.pn ++ pins, p.1 ≠ a)
    (fin : ∀ s', H a = none → L2.Inv X pins σ (upd (upd H c (.lst [])) a (.lst zs)) s' → Q (.ref a) s') :
    wpAny (model X.prog X.w) X.A.in1.in1 (ksk_tail a false before (.ref c) st) (fun r s' => r = .done (.ret .none) ∧ Q (.ref a) s') E s := by
  obtain ⟨z, is, n, ri, li, e⟩ := I.lstM hc
  have pm : (a, seqObj "list" #[] before) ∈ X.pn ++ (pins ++ [(a, seqObj "list" #[] before)]) := List.mem_append.mpr (.inr (List.mem_append.mpr (.inr (List.mem_singleton.mpr rfl))))
  have pq := I.pin (a, seqObj "list" #[] before) pm
  have ga : s.heap.get? a = some (seqObj "list" #[] before) := pq.1
  have na : H a = none := pq.2.1
  have la : a ≠ X.env.locals := pq.2.2.1
  have hca : c ≠ a := fun q => by rw [q, na] at hc; cases hc
  unfold ksk_tail
  simp only [Bool.false_eq_true, if_false]
  refine wpAny_bind (listUpdate_at (f := fun _ => #[]) e rfl ?_ (by rw [List.size_toArray, ← ri.length]; exact z) (Nat.zero_le _))
  have I1 := I.lset (t' := s.toks) (its' := []) (f := fun _ => #[]) hc e rfl .nil (Nat.zero_le _)
  have ga1 : (s.heap.update c (Obj.mapSeq fun _ => (#[] : Array Value))).get? a = some (seqObj "list" #[] before) := (Heap.get?_update_other s.heap _ hca).trans ga
  refine wpAny_bind (wpAny_letGo ?_)
  refine wpAny_bind (seqEpoch_at ga1 rfl ?_)
  have hsz : ((arrOf st).map (·.2)).size ≤ sizeLine := by rw [Array.size_map, ← Array.length_toList, ← List.length_map (f := fun p : Keyed => p.2), ← hvz.length]; exact hz
  have hsz2 : ((arrOf st).map (·.2)).size ≤ sizeLine + 1 := by omega
  refine wpAny_bind (listUpdate_at (f := fun _ => (arrOf st).map (·.2)) ga1 rfl ?_ (Nat.zero_le _) hsz2)
  rw [hf]
  simp only [bne_self_eq_false, Bool.false_eq_true, if_false]
  refine wpAny_pure ⟨rfl, fin _ na ?_⟩
  have I2 : L2.Inv X pins σ (upd H c (.lst [])) { s with heap := s.heap.update c (Obj.mapSeq fun _ => (#[] : Array Value)) } := I1.unpinned
  have na2 : (upd H c (.lst [])) a = none := by rw [L2.upd_ne hca.symm]; exact na
  have et : ((arrOf st).map (·.2)) = ((arrOf st).toList.map (·.2)).toArray := by rw [← Array.toList_map, Array.toArray_toList]
  have he := get?_update_seq ga1 (fun _ => (arrOf st).map (·.2))
  have I3 := I2.turned (t' := s.toks) (it := a) (h' := (s.heap.update c (Obj.mapSeq fun _ => (#[] : Array Value))).update a (Obj.mapSeq fun _ => (arrOf st).map (·.2))) (fun b o hb q => (Heap.get?_update_other _ _ (Ne.symm hb)).trans q) na2 la (.inr ha0) (fun x d q z => by
    obtain ⟨v, o, ho, hd⟩ := I2.cell x d q
    rw [z] at ho
    rw [ga1] at ho
    cases ho
    cases hd) hap
  refine inv_track I3 na2 ha0 la hap hvz hz (n := if (((arrOf st).map (·.2)).size == (#[] : Array Value).size) = true then before else before + 1) ?_
  rw [← et]
  exact he
/-- the keyed items in order: the end of the sort -/
theorem end_run {a c : Addr} {its us : List Value} {before : Nat} {xs ks : List V} {Q : Value → Shared → Prop} {E : Value → Shared → Prop} {lt : Keyed → Keyed → Bool}
    (I : L2.Inv X (pins ++ [(a, seqObj "list" #[] before)]) σ H s) (hc : H c = some (.lst ks)) (hv : Vals xs its) (hl : us.length = its.length) (hz : xs.length ≤ sizeLine)
    (ha0 : X.s_0.heap.objs.size ≤ a) (hap : ∀ p ∈ X.pn ++ pins, p.1 ≠ a) (O : SrtO.Swo lt)
    (hcmp : 2 ≤ its.length → ∃ κ, (∀ (Q : SortKind → Shared → Prop) (E : Value → Shared → Prop), Q κ s → wpAny (model X.prog X.w) X.A.in1.in1 (keyKind' us.toArray) Q E s) ∧ SrtO.Cmp X.prog X.w X.A.in1.in1 s κ (fun p => p ∈ us.zip its) lt)
    (fin : ∀ (out : List Keyed) (zs : List V) s', SrtO.Srtd lt out → out.Perm (us.zip its) → Vals zs (out.map (·.2)) → H a = none → L2.Inv X pins σ (upd (upd H c (.lst [])) a (.lst zs)) s' → Q (.ref a) s') :
    wpAny (model X.prog X.w) X.A.in1.in1 (ksk_end a false its.toArray before (.ref c) us.toArray) (fun r s' => r = .done (.ret .none) ∧ Q (.ref a) s') E s := by
  have lay : ∀ st : SortSt, failedOf st = none → SrtO.Srtd lt (arrOf st).toList → (arrOf st).toList.Perm (us.zip its) → wpAny (model X.prog X.w) X.A.in1.in1 (ksk_tail a false before (.ref c) st) (fun r s' => r = .done (.ret .none) ∧ Q (.ref a) s') E s := fun st hf hs hp => by
    have hm : ((arrOf st).toList.map (·.2)).Perm its := by
      have := hp.map (fun p : Keyed => p.2)
      rw [List.map_snd_zip (by omega)] at this
      exact this
    obtain ⟨zs, hvz⟩ := vals_ex (us := (arrOf st).toList.map (·.2)) fun u hu => vals_has hv u (hm.mem_iff.mp hu)
    exact tail_run I hc (by rw [hvz.length, hm.length_eq, ← hv.length]; exact hz) hf hvz ha0 hap fun s' na I' => fin _ zs s' hs hp hvz na I'
  have ez : ((us.toArray.zip its.toArray)).toList = us.zip its := by simp
  unfold ksk_end
  simp only [Bool.false_eq_true, if_false]
  by_cases h2 : its.toArray.size < 2
  · rw [if_pos h2, if_pos h2]
    refine wpAny_bind (wpAny_pure ?_)
    rw [StateT.run_pure]
    refine wpAny_bind (wpAny_pure ?_)
    try dsimp only
    refine lay (SortSt.mk' general' (us.toArray.zip its.toArray) #[] 7 none) rfl ?_ ?_
    · show SrtO.Srtd lt (us.toArray.zip its.toArray).toList
      rw [ez]
      rw [List.size_toArray] at h2
      exact srtd_one (by rw [List.length_zip]; omega)
    · show ((us.toArray.zip its.toArray).toList).Perm _
      rw [ez]
  · rw [if_neg h2, if_neg h2]
    rw [List.size_toArray] at h2
    obtain ⟨κ, hk, hC⟩ := hcmp (by omega)
    refine wpAny_bind (hk _ _ ?_)
    refine wpAny_bind (wpAny_mono (SrtO.wpS_sortO (st0 := SortSt.mk' κ (us.toArray.zip its.toArray) #[] 7 none) (Q := fun _ st' => SrtO.Srtd lt (arrOf st').toList ∧ SrtO.Stb lt (arrOf st').toList (us.toArray.zip its.toArray).toList ∧ failedOf st' = none)
      O hC rfl (fun p hp => by rw [← ez]; exact hp) rfl rfl fun st' a1 a2 a3 => ⟨a1, a2, a3⟩) ?_ fun _ _ x => x)
    rintro ⟨⟨⟩, st'⟩ s' ⟨rfl, h1, h3, hf⟩
    try dsimp only
    refine lay st' hf h1 ?_
    have := h3.perm
    rw [ez] at this
    exact this
/-- sorted(l, key=f) -/
theorem sorted_run {l fa : Addr} {T : String} {o : Obj} {n : Nat} {its : List Value} {xs : List V} {Q : VK} (J : Addr → List V → Hp → Prop) (I : L2.Inv X pins σ H s)
    (hT : T = "list" ∨ T = "tuple") (ho : s.heap.get? l = some o) (hc : o.cls = .type T) (hd : o.data = .seq its.toArray n) (hv : Vals xs its) (hz : xs.length ≤ sizeLine)
    (h0 : ∀ c, H c = none → J c [] (upd H c (.lst [])))
    (turn : ∀ c p ks H1 s1 x u, xs[ks.length]? = some x → its[ks.length]? = some u → J c ks H1 → H1 c = some (.lst ks) → L2.Inv X p σ H1 s1 → wpAny (model X.prog X.w) X.A.in1.in1 (call (.ref fa) [u]) (EP X p σ fun kv H2 => H2 c = some (.lst ks) ∧ J c (ks ++ [kv]) (upd H2 c (.lst (ks ++ [kv])))) (fun _ _ => False) s1)
    (last : ∀ c p ks us H1 s1, ks.length = xs.length → Vals ks us → J c ks H1 → H1 c = some (.lst ks) → L2.Inv X p σ H1 s1 → ∃ lt : Keyed → Keyed → Bool, SrtO.Swo lt ∧
      (2 ≤ its.length → ∃ κ, (∀ (Q : SortKind → Shared → Prop) (E : Value → Shared → Prop), Q κ s1 → wpAny (model X.prog X.w) X.A.in1.in1 (keyKind' us.toArray) Q E s1) ∧ SrtO.Cmp X.prog X.w X.A.in1.in1 s1 κ (fun p => p ∈ us.zip its) lt) ∧
      ∀ (out : List Keyed) (zs : List V) a, SrtO.Srtd lt out → out.Perm (us.zip its) → Vals zs (out.map (·.2)) → H1 a = none → a ≠ c → H a = none → Q (.ref a) (upd (upd H1 c (.lst [])) a (.lst zs))) :
    wpAny (model X.prog X.w) X.A (call (.builtin "sorted") [.ref l] [(Str.ofString "key", .ref fa)]) (EP X pins σ Q) X.xe s := by
  have hi : its.length ≤ sizeLine := by rw [← hv.length]; exact hz
  refine call_function_entry_kw kind_sorted plain_sorted entry_sorted (ksk_s1 _ _) ?_
  unfold Builtin.«sorted»
  refine wpAny_bind (m := checkCount "sorted" 1 1 _) (wpAny_pure ?_)
  refine wpAny_bind (wpAny_collect_seq l hT ho hc hd (fun h' keep => ?_) (by rw [List.size_toArray]; exact hi))
  have I1 : L2.Inv X pins σ H { s with heap := h' } := I.kept (t' := s.toks) keep
  refine wpAny_bind (wpAny_newList ?_ (by simpa using hi))
  have hoL : (h'.push (seqObj "list" its.toArray 0)).get? h'.objs.size = some (seqObj "list" its.toArray 0) := Heap.get?_push_size _ rfl
  refine wpAny_bind (wpAny_holding (wpAny_call_entry_kw slot_list_sort ⟨_, hoL, rfl⟩ entry_list_sort ?body (ksk_l1 _ _)))
  case body =>
    have e1 := ksk_t1 fa h'.objs.size
    show wpAny (model X.prog X.w) X.A.in1.in1 (Builtin.«list.sort» ⟨[.ref h'.objs.size], [(Str.ofString "key", .ref fa)]⟩) _ _ _
    rw [e1]
    have al : h'.objs.size ≠ X.env.locals := Nat.ne_of_gt I1.lt
    have asz : X.s_0.heap.objs.size ≤ h'.objs.size := I1.sz
    have acl : ∀ x d, X.env.cells.lookup x = some d → d ≠ h'.objs.size := fun x d q => by
      obtain ⟨v, o, q1, _⟩ := I1.cell x d q
      exact Nat.ne_of_lt (Heap.lt_size q1)
    have apn : ∀ p ∈ X.pn ++ pins, p.1 ≠ h'.objs.size := fun p q => Nat.ne_of_lt (Heap.lt_size (I1.pin p q).1)
    have afs : h'.objs.size ∉ X.fs := I1.nofs (Nat.le_refl _)
    have asz1 : (h'.push (seqObj "list" its.toArray 0)).objs.size = h'.objs.size + 1 := size_push' _ _
    generalize ha : h'.objs.size = a at *
    have Ia : L2.Inv X pins σ H { s with heap := h'.push (seqObj "list" its.toArray 0) } := I1.kept (t' := s.toks) fun b u q => Heap.get?_push_of_some _ q
    have hna : H a = none := by rw [← ha]; exact I1.fresh
    unfold ksk_tree
    refine wpAny_bind (listItems_at hoL rfl ?_)
    refine wpAny_bind (listUpdate_at (f := fun _ => #[]) hoL rfl ?_ (by rw [List.size_toArray]; exact hi) (Nat.zero_le _))
    have ga := get?_update_seq hoL (fun _ => (#[] : Array Value))
    refine wpAny_bind (seqEpoch_at ga rfl ?_)
    refine wpAny_bind (wpAny_newTuple ?_ (by simpa using hi))
    refine wpAny_bind (wpAny_newList ?_ (Nat.zero_le _))
    refine wpAny_holding ?_
    obtain ⟨hB, hBe⟩ : ∃ hB, hB = (h'.push (seqObj "list" its.toArray 0)).update a (Obj.mapSeq fun _ => (#[] : Array Value)) := ⟨_, rfl⟩
    obtain ⟨hC, hCe⟩ : ∃ hC, hC = hB.push (seqObj "tuple" its.toArray 0) := ⟨_, rfl⟩
    have st : wpAny (model X.prog X.w) X.A.in1.in1 (ksk_rest a (.ref fa) false its.toArray (if ((#[] : Array Value).size == its.toArray.size) = true then 0 else 0 + 1) (.ref hC.objs.size)) (fun r s' => r = .done (.ret .none) ∧ EP X pins σ Q (.ref a) s') (fun _ _ => False) { s with heap := hC.push (seqObj "list" #[] 0) } := by
      have zB : hB.objs.size = a + 1 := by rw [hBe, Heap.size_update]; exact asz1
      have zC : hC.objs.size = a + 2 := by rw [hCe, size_push', zB]
      have gB : hB.get? a = some (seqObj "list" #[] (if ((#[] : Array Value).size == its.toArray.size) = true then 0 else 0 + 1)) := by rw [hBe]; exact ga
      have Ib0 := Ia.turned (t' := s.toks) (it := a) (h' := hB) (fun b o hb q => by rw [hBe]; exact (Heap.get?_update_other _ _ (Ne.symm hb)).trans q) hna al (.inr asz) acl apn
      have Ib : L2.Inv X pins σ H { s with heap := hB } := Ib0
      have Ic0 := Ib.kept (t' := s.toks) (h' := hC) fun b u q => by rw [hCe]; exact Heap.get?_push_of_some _ q
      have Ic : L2.Inv X pins σ H { s with heap := hC } := Ic0
      have Id := Ic.lnew (t' := s.toks) (ys := []) (its := []) .nil (Nat.zero_le _)
      have ca : a ≠ hC.objs.size := by omega
      have Ip := Id.pins_of (pins' := pins ++ [(a, seqObj "list" #[] (if ((#[] : Array Value).size == its.toArray.size) = true then 0 else 0 + 1))]) (fun p hp => by
        rcases List.mem_append.mp hp with hp | hp
        · exact Id.pin p (List.mem_append_right _ hp)
        · rw [List.mem_singleton.mp hp]
          refine ⟨Heap.get?_push_of_some _ (by rw [hCe]; exact Heap.get?_push_of_some _ gB), ?_, al, afs, fun v q => by cases q⟩
          show (upd H hC.objs.size (.lst [])) a = none
          rw [L2.upd_ne ca]; exact hna)
      refine keys_run (J hC.objs.size) hv hz (fun ks H1 s1 x u e1 e2 j hc' I' => turn _ _ ks H1 s1 x u e1 e2 j hc' I') Ip (h0 _ Ic.fresh) L2.upd_same ?_
      intro ks us e H1 s1 lk vk j hc' I' hk
      obtain ⟨lt, O, cmp, fin⟩ := last _ _ ks us H1 s1 lk vk j hc' I'
      exact end_run I' hc' hv (by rw [← vk.length, lk, hv.length]) hz asz apn O cmp fun out zs s' hs hp hvz na I2 => ⟨V.ref a, _, I2, rfl, fin out zs a hs hp hvz na ca hna⟩
    subst hCe
    subst hBe
    refine wpAny_mono st (fun r s' hr => ?_) fun _ _ x => x.elim
    obtain ⟨rfl, hq⟩ := hr
    exact ⟨_, rfl, wpAny_pure ⟨_, rfl, hq⟩⟩
end
/-! ### keys: (truth value, whole number or text) -/
/-- the key d at v -/
def KeyAt (h : Heap) (v : Value) (d : Bool × (Int ⊕ List Nat)) : Prop := ∃ a o b t n, v = .ref a ∧ h.get? a = some o ∧ o.cls = .type "tuple" ∧ o.data = .seq #[.bool b, t] n ∧ d.1 = b ∧
  match d.2 with
  | .inl i => b = false ∧ ∃ tk, t = .int i tk
  | .inr s => b = true ∧ ∃ tk, t = .str (S s) tk
theorem key_cmp {prog : Program} {w : World} {A : Around} {s : Shared} {dec : Value → Bool × (Int ⊕ List Nat)} {P : Keyed → Prop} (h : ∀ p, P p → KeyAt s.heap p.1 (dec p.1)) : SrtO.Cmp prog w A s (tuples' true) P fun p q => kLt (dec p.1) (dec q.1) := by
  intro p q hp hq
  have h1 := h p hp
  have h2 := h q hq
  show wpAny (model prog w) A (keyLt' (tuples' true) p.1 q.1) (fun r s' => s' = s ∧ r = kLt (dec p.1) (dec q.1)) (fun _ _ => False) s
  generalize dec p.1 = d at h1 ⊢
  generalize dec q.1 = e at h2 ⊢
  obtain ⟨a, o, b, t, n, e1, ho, hc, hd, hb, ht⟩ := h1
  obtain ⟨a', o', b', t', n', e1', ho', hc', hd', hb', ht'⟩ := h2
  rw [e1, e1']
  refine PySem.W.kat_lt ho hd ho' hd' ?_
  show PySem.W.KatLex prog w A true (decide (2 < 2)) _ [(.bool b, .bool b'), (t, t')] 0 s
  obtain ⟨d1, d2⟩ := d
  obtain ⟨f1, f2⟩ := e
  cases d2 with
  | inl i =>
    obtain ⟨rfl, tk, rfl⟩ := ht
    cases f2 with
    | inl j =>
      obtain ⟨rfl, tk', rfl⟩ := ht'
      refine PySem.W.kat_cons (SeqAt.EqAt.bool_bool false false prog w _ _ ?_)
      refine PySem.W.kat_yes (PySem.W.kat_cons (SeqAt.EqAt.int_int i tk j tk' prog w _ _ ?_))
      refine PySem.W.kat_go (fun e => ?_) fun e => ?_
      · have e : i = j := by simpa using e
        refine PySem.W.kat_yes (PySem.W.kat_nil ⟨rfl, ?_⟩)
        show decide (2 < 2) = decide (i < j)
        rw [e]; simp
      · exact PySem.W.kat_no (oneLt_any_int ⟨rfl, rfl⟩)
    | inr y =>
      obtain ⟨rfl, tk', rfl⟩ := ht'
      refine PySem.W.kat_cons (SeqAt.EqAt.bool_bool false true prog w _ _ ?_)
      exact PySem.W.kat_no (PySem.W.oneLt_bool ⟨rfl, rfl⟩)
  | inr x =>
    obtain ⟨rfl, tk, rfl⟩ := ht
    cases f2 with
    | inl j =>
      obtain ⟨rfl, tk', rfl⟩ := ht'
      refine PySem.W.kat_cons (SeqAt.EqAt.bool_bool true false prog w _ _ ?_)
      exact PySem.W.kat_no (PySem.W.oneLt_bool ⟨rfl, rfl⟩)
    | inr y =>
      obtain ⟨rfl, tk', rfl⟩ := ht'
      refine PySem.W.kat_cons (SeqAt.EqAt.bool_bool true true prog w _ _ ?_)
      refine PySem.W.kat_yes (PySem.W.kat_cons (SeqAt.EqAt.str_str (S x) tk (S y) tk' prog w _ _ ?_))
      refine PySem.W.kat_go (fun e => ?_) fun e => ?_
      · have e : S x = S y := by simpa using e
        refine PySem.W.kat_yes (PySem.W.kat_nil ⟨rfl, ?_⟩)
        have e' : x = y := by
          have := congrArg (fun z : Str => z.cps.toList) e
          simpa [S] using this
        show decide (2 < 2) = decide (x < y)
        rw [e']; simp
      · refine PySem.W.kat_no (oneLt_any_str ⟨rfl, ?_⟩)
        show decide ((S x).cps.toList < (S y).cps.toList) = decide (x < y)
        simp [S]
theorem key_firsts {h : Heap} : ∀ {us : List Value}, (∀ v ∈ us, ∃ d, KeyAt h v d) → ∃ fs, PySem.W.KatTups h us fs ∧ fs.length = us.length ∧ ∀ f ∈ fs, ∃ b, f = Value.bool b
  | [], _ => ⟨[], PySem.W.KatTups.nil, rfl, fun f q => (List.not_mem_nil q).elim⟩
  | v :: us, q => by
    obtain ⟨d, a, o, b, t, n, rfl, ho, hc, hd, _⟩ := q v (List.mem_cons_self ..)
    obtain ⟨fs, r1, r2, r3⟩ := key_firsts fun w hw => q w (List.mem_cons_of_mem _ hw)
    refine ⟨.bool b :: fs, PySem.W.KatTups.cons ho hc hd rfl r1, by rw [List.length_cons, List.length_cons, r2], fun f hf => ?_⟩
    rcases List.mem_cons.mp hf with e | hf
    · exact ⟨b, e⟩
    · exact r3 f hf
theorem key_kind {M : Model} {A : Around} {s : Shared} {us : List Value} {Q : SortKind → Shared → Prop} {E : Value → Shared → Prop} (h0 : 0 < us.length) (h : ∀ v ∈ us, ∃ d, KeyAt s.heap v d) (q : Q (tuples' true) s) : wpAny M A (keyKind' us.toArray) Q E s := by
  obtain ⟨fs, r1, r2, r3⟩ := key_firsts h
  refine PySem.W.kat_kind (T := .type "bool") r1 (by omega) (fun f hm => ?_) (by rfl) ?_
  · obtain ⟨b, rfl⟩ := r3 f hm
    exact PySem.W.Looks.now
  · have e : (Value.type "bool" != Value.type "tuple") = true := by first | decide +kernel | rfl | decide
    rw [e]
    exact q
theorem lt_asym {x y : List Nat} (h : x < y) : ¬ y < x := fun g => absurd (List.lt_trans h g) (List.lt_irrefl x)
theorem kLt_swo {α : Type} (f : α → Bool × (Int ⊕ List Nat)) : SrtO.Swo fun p q => kLt (f p) (f q) := by
  refine ⟨fun x y h => ?_, fun x y z h g => ?_⟩
  · generalize f x = a at *
    generalize f y = b at *
    obtain ⟨_, a⟩ := a
    obtain ⟨_, b⟩ := b
    cases a <;> cases b <;> simp only [kLt, decide_eq_true_eq, decide_eq_false_iff_not] at h ⊢
    · omega
    · exact absurd h (by simp)
    · exact lt_asym h
  · generalize f x = a at *
    generalize f y = b at *
    generalize f z = c at *
    obtain ⟨_, a⟩ := a
    obtain ⟨_, b⟩ := b
    obtain ⟨_, c⟩ := c
    cases a <;> cases b <;> cases c <;> simp only [kLt, decide_eq_false_iff_not, Bool.true_eq_false] at h g ⊢
    · omega
    · exact fun q => by
        have h1 := List.not_lt.mp h
        have h2 := List.not_lt.mp g
        exact absurd q (List.not_lt.mpr (List.le_trans h1 h2))
def KeyV (K : PySem.W.Frag) (H : Hp) (v : V) (d : KK) : Prop := ∃ p t, v = V.ref p ∧ SqT K H p [.bl d.1, t] ∧ match d.2 with
  | .inl i => d.1 = false ∧ t = .int i
  | .inr s => d.1 = true ∧ t = .str (S s)
section
variable {X : Cx} {pins : List (Addr × Obj)} {σ : L2.St} {H : Hp} {s : Shared}
theorem keyAt_of (I : L2.Inv X pins σ H s) {v : V} {u : Value} {d : KK} (h : KeyV X.K H v d) (r : L2.RelV v u) : KeyAt s.heap u d := by
  obtain ⟨p, t, rfl, hs, ht⟩ := h
  cases (show u = Value.ref p from r)
  obtain ⟨its, rv, ⟨o, ho, hc, n, hd⟩, _⟩ := I.tuple hs
  obtain ⟨u1, u2, rfl, e1, e2⟩ := vals2 rv
  obtain ⟨d1, d2⟩ := d
  have e1 : u1 = Value.bool d1 := e1
  subst e1
  refine ⟨p, o, d1, u2, n, rfl, ho, hc, hd, rfl, ?_⟩
  cases d2 with
  | inl i =>
    obtain ⟨h1, rfl⟩ := ht
    exact ⟨h1, e2⟩
  | inr x =>
    obtain ⟨h1, rfl⟩ := ht
    exact ⟨h1, e2⟩
theorem keyAt_inj {h : Heap} {u : Value} {d e : KK} (a : KeyAt h u d) (b : KeyAt h u e) : d = e := by
  obtain ⟨a1, o, b1, t, n, rfl, ho, _, hd, h1, h2⟩ := a
  obtain ⟨a2, o', b2, t', n', e', ho', _, hd', h1', h2'⟩ := b
  cases e'
  rw [ho] at ho'
  cases ho'
  rw [hd] at hd'
  obtain ⟨d1, d2⟩ := d
  obtain ⟨f1, f2⟩ := e
  cases hd'
  cases h1
  cases h1'
  cases d2 with
  | inl i =>
    cases f2 with
    | inl j =>
      obtain ⟨_, k, rfl⟩ := h2
      obtain ⟨_, k', e⟩ := h2'
      cases e; rfl
    | inr y => exact absurd (h2.1.symm.trans h2'.1) (by decide)
  | inr x =>
    cases f2 with
    | inl j => exact absurd (h2.1.symm.trans h2'.1) (by decide)
    | inr y =>
      obtain ⟨_, k, rfl⟩ := h2
      obtain ⟨_, k', e⟩ := h2'
      have e1 : S x = S y := (Value.str.inj e).1
      have e2 := congrArg (fun z : Str => z.cps.toList) e1
      have e3 : x = y := by simpa [S] using e2
      rw [e3]
def toV (u : Value) : V := (absV u).getD .non
theorem vals_toV : ∀ {xs : List V} {us : List Value}, Vals xs us → xs = us.map toV
  | _, _, .nil => rfl
  | _, _, .cons h r => by
    rw [List.map_cons, ← vals_toV r]
    have e := h.abs
    unfold toV
    rw [e]; rfl
theorem zip_map2 {α β γ δ : Type} {f : α → γ} {g : β → δ} : ∀ {xs : List α} {ys : List β}, (xs.zip ys).map (fun p => (f p.1, g p.2)) = (xs.map f).zip (ys.map g)
  | [], _ => by simp
  | _ :: _, [] => by simp
  | x :: xs, y :: ys => by simp [zip_map2]
def rSortKey (K : PySem.W.Frag) (sp : Sp) (fa : Addr) : List V → List V → Hp → VK → Prop := fun vs zs H Q => ∃ l xs, vs = [V.ref l] ∧ zs = [V.ref fa] ∧ (SqL K H l xs ∨ SqT K H l xs) ∧ ∃ J : Addr → List V → Hp → Prop,
  (∀ c, H c = none → J c [] (upd H c (.lst []))) ∧
  (∀ c ks H1 x, xs[ks.length]? = some x → J c ks H1 → H1 c = some (.lst ks) → sp [x] H1 (fun kv H2 => H2 c = some (.lst ks) ∧ J c (ks ++ [kv]) (upd H2 c (.lst (ks ++ [kv])))) E0) ∧
  (∀ c ks H1, ks.length = xs.length → J c ks H1 → H1 c = some (.lst ks) → ∃ kd : List KK, kd.length = xs.length ∧ (∀ (i : Nat) v d, ks[i]? = some v → kd[i]? = some d → KeyV K H1 v d) ∧
    ∀ (ys : List (KK × V)) a, ys.Perm (kd.zip xs) → ys.Pairwise (fun p q => kLt q.1 p.1 = false) → H1 a = none → a ≠ c → H a = none → Q (.ref a) (upd (upd H1 c (.lst [])) a (.lst (ys.map (·.2)))))
theorem cr_sortKey {k : Nat} {fa : Addr} {fd : FuncData} {ps : List Str} {sp : Sp} (F : FnOk X.prog X.w X.K X.mg X.base CX0 k fa fd ps sp) (hr : Room (k + 2) X.A) (hb : Binds X.K fd ps []) : CallRK X (.builtin "sorted") [Str.ofString "key"] (rSortKey X.K sp fa) := by
  intro pins s σ H vs zs us ws Q I r rz h
  obtain ⟨l, xs, rfl, rfl, hs, J, h0, h1, h2⟩ := h
  obtain rfl := Vals.ref1 r
  obtain rfl := Vals.ref1 rz
  have at_ : ∃ (T : String) (o : Obj) (n : Nat) (its : List Value), (T = "list" ∨ T = "tuple") ∧ s.heap.get? l = some o ∧ o.cls = .type T ∧ o.data = .seq its.toArray n ∧ Vals xs its ∧ xs.length ≤ sizeLine := by
    rcases hs with hs | hs
    · obtain ⟨its, rv, hl, hz⟩ := I.list hs
      obtain ⟨o, ho, hc, n, hd⟩ := hl.isList
      exact ⟨_, o, n, its, .inl rfl, ho, hc, hd, rv, hz⟩
    · obtain ⟨its, rv, ⟨o, ho, hc, n, hd⟩, hz⟩ := I.tuple hs
      exact ⟨_, o, n, its, .inr rfl, ho, hc, hd, rv, hz⟩
  obtain ⟨T, o, n, its, hT, ho, hc, hd, hv, hz⟩ := at_
  refine sorted_run J I hT ho hc hd hv hz h0 (fun c p ks H1 s1 x u e1 e2 j hc1 I1 => ?_) fun c p ks us H1 s1 lk vk j hc1 I1 => ?_
  · obtain ⟨u', e3, ru⟩ := Vals.get hv e1
    rw [e2] at e3
    cases e3
    exact run_in2 F hr hb I1 (.cons ru .nil) (h1 c ks H1 x e1 j hc1)
  · obtain ⟨kd, lkd, hkd, fin⟩ := h2 c ks H1 lk j hc1
    have lu : us.length = ks.length := vk.length.symm
    have ka : ∀ (i : Nat) u, us[i]? = some u → ∃ d, kd[i]? = some d ∧ KeyAt s1.heap u d := fun i u e => by
      have hi : i < us.length := (List.getElem?_eq_some_iff.mp e).1
      have hi1 : i < ks.length := by omega
      have hi2 : i < kd.length := by omega
      obtain ⟨u', e', ru⟩ := Vals.get vk (List.getElem?_eq_getElem hi1)
      rw [e] at e'
      cases e'
      exact ⟨kd[i], List.getElem?_eq_getElem hi2, keyAt_of I1 (hkd i _ _ (List.getElem?_eq_getElem hi1) (List.getElem?_eq_getElem hi2)) ru⟩
    have km : ∀ u ∈ us, ∃ d, KeyAt s1.heap u d := fun u hu => by
      obtain ⟨i, e⟩ := List.getElem?_of_mem hu
      obtain ⟨d, _, hd⟩ := ka i u e
      exact ⟨d, hd⟩
    classical
    obtain ⟨dec, hdec⟩ : ∃ dec : Value → KK, ∀ u d, KeyAt s1.heap u d → dec u = d := ⟨fun u => if h : ∃ d, KeyAt s1.heap u d then h.choose else (false, .inl 0), fun u d h => by
      have hex : ∃ d, KeyAt s1.heap u d := ⟨d, h⟩
      show (if h : ∃ d, KeyAt s1.heap u d then h.choose else (false, .inl 0)) = d
      rw [dif_pos hex]
      exact keyAt_inj hex.choose_spec h⟩
    have kdec : ∀ u ∈ us, KeyAt s1.heap u (dec u) := fun u hu => by
      obtain ⟨d, hd⟩ := km u hu
      rw [hdec u d hd]; exact hd
    have ed : us.map dec = kd := by
      refine List.ext_getElem? fun i => ?_
      rw [List.getElem?_map]
      cases e : us[i]? with
      | none =>
        rw [List.getElem?_eq_none_iff] at e
        exact (List.getElem?_eq_none (by omega)).symm
      | some u =>
        obtain ⟨d, e1, hd⟩ := ka i u e
        rw [e1, Option.map_some, hdec u d hd]
    refine ⟨fun p q => kLt (dec p.1) (dec q.1), kLt_swo (fun p : Keyed => dec p.1), fun h2 => ⟨tuples' true, fun Q E q => key_kind (by rw [lu, lk, hv.length]; omega) km q, key_cmp (dec := dec) fun p hp => kdec p.1 (List.of_mem_zip (show (p.1, p.2) ∈ us.zip its from hp)).1⟩, fun out zs a hs hp hvz na ne hna => ?_⟩
    have q := fin (out.map fun p => (dec p.1, toV p.2)) a (by
      have := hp.map (fun p : Keyed => (dec p.1, toV p.2))
      rw [zip_map2, ed, ← vals_toV hv] at this
      exact this) (List.pairwise_map.mpr hs) na ne hna
    rw [List.map_map] at q
    rw [vals_toV hvz, List.map_map]
    exact q
end
end DL

/-! DSortE: the rule of sorted with key over trees. -/
namespace DL
open PySem PySem.Spec PyProof.Rows L2
variable [WW]
theorem perm_of_map {α β : Type} {f : α → β} : ∀ {l k : List β}, l.Perm k → ∀ m : List α, k = m.map f → ∃ m' : List α, m'.Perm m ∧ l = m'.map f := by
  intro l k h
  induction h with
  | nil => intro m e; cases m with
    | nil => exact ⟨[], .nil, rfl⟩
    | cons _ _ => cases e
  | cons x _ ih => intro m e; cases m with
    | nil => cases e
    | cons y m =>
      rw [List.map_cons] at e
      obtain ⟨e1, e2⟩ := List.cons.inj e
      obtain ⟨m', p, q⟩ := ih m e2
      exact ⟨y :: m', p.cons y, by rw [List.map_cons, e1, q]⟩
  | swap x y l => intro m e; cases m with
    | nil => cases e
    | cons a m => cases m with
      | nil => cases e
      | cons b m =>
        rw [List.map_cons, List.map_cons] at e
        obtain ⟨e1, e2⟩ := List.cons.inj e
        obtain ⟨e2, e3⟩ := List.cons.inj e2
        exact ⟨b :: a :: m, .swap a b m, by rw [List.map_cons, List.map_cons, e1, e2, e3]⟩
  | trans _ _ ih1 ih2 => intro m e; 
                         obtain ⟨m1, p1, q1⟩ := ih2 m e
                         obtain ⟨m2, p2, q2⟩ := ih1 m1 q1
                         exact ⟨m2, p2.trans p1, q2⟩
section
variable {P : Program} {w : World} {K : PySem.W.Frag} {mg : Str → Option Value} {base : Heap} {N : List Str} {sc : Scope} {k : Nat}
variable {F : Fam P w K mg base N sc k}
/-- an own list is written over -/
theorem Ext.over {W W' : Wd} {H H' : Hp} {c : Addr} {o : HO} (x : Ext W H W' H') (n : H c = none) (hb : W'.B c = none) (hp : ¬ W'.P c) : Ext W H W' (L2.upd H' c o) where
  le := x.le
  nb := fun a u e => by
    rcases x.nb a u e with q | ⟨q1, q2⟩
    · exact .inl q
    · refine .inr ⟨q1, ?_⟩
      rw [L2.upd_ne fun z => by rw [z, hb] at e; cases e]
      exact q2
  np := x.np
  holds := by
    refine ⟨fun a u e => ?_, fun a p => ?_⟩
    · have ne : a ≠ c := fun z => by rw [z, hb] at e; cases e
      rcases x.holds.b a u e with q | ⟨m, ob, q⟩
      · exact .inl (by rw [L2.upd_ne ne]; exact q)
      · exact .inr ⟨m, ob, by rw [L2.upd_ne ne]; exact q⟩
    · have ne : a ≠ c := fun z => hp (z ▸ p)
      obtain ⟨⟨x1, x2, x3, e, r⟩, b⟩ := x.holds.p a p
      exact ⟨⟨x1, x2, x3, by rw [L2.upd_ne ne]; exact e, r⟩, b⟩
  fr := fun a u e p => by
    rw [L2.upd_ne fun z => by rw [z, n] at e; cases e]
    exact x.fr a u e p
theorem Reps.unzip {W : Wd} : ∀ {zs : List (V × D)}, (∀ p ∈ zs, Rep K W p.1 p.2) → Reps K W (zs.map (·.1)) (zs.map (·.2))
  | [], _ => .nil
  | p :: zs, h => .cons (h p (List.mem_cons_self ..)) (Reps.unzip fun q hq => h q (List.mem_cons_of_mem _ hq))
theorem Reps.zip {W : Wd} : ∀ {vs : List V} {ds : List D}, Reps K W vs ds → ∀ p ∈ vs.zip ds, Rep K W p.1 p.2
  | _, _, .nil, p, h => by cases h
  | _, _, .cons r t, p, h => by
    rw [List.zip_cons_cons] at h
    rcases List.mem_cons.mp h with e | h
    · subst e; exact r
    · exact Reps.zip t p h
theorem keyV_of {W : Wd} {H : Hp} {v : V} {d : KK} (hw : Holds W H) (r : Rep K W v (kkD d)) (ok : okK d) : KeyV K H v d := by
  obtain ⟨b, x⟩ := d
  cases x with
  | inl i =>
    have r : Rep K W v (.tup [.bl b, .int i]) := r
    cases r with
    | tup q rr =>
      cases rr with
      | cons r1 rr => cases rr with
        | cons r2 rr => cases rr; cases r1; cases r2; exact ⟨_, _, rfl, hw.seqT q, ok, rfl⟩
  | inr s =>
    have r : Rep K W v (.tup [.bl b, .str s]) := r
    cases r with
    | tup q rr =>
      cases rr with
      | cons r1 rr => cases rr with
        | cons r2 rr => cases rr; cases r1; cases r2; exact ⟨_, _, rfl, hw.seqT q, ok, rfl⟩
theorem zip_key (key : D → KK) : ∀ {ds : List D} {vs : List V}, ds.length = vs.length → (ds.map key).zip vs = (vs.zip ds).map fun p => (key p.2, p.1)
  | [], [], _ => rfl
  | [], _ :: _, h => by cases h
  | _ :: _, [], h => by cases h
  | d :: ds, v :: vs, h => by rw [List.map_cons, List.zip_cons_cons, List.zip_cons_cons, List.map_cons, zip_key key (by simpa using h)]
theorem sort_core {W : Wd} {H : Hp} {l fa : Addr} {vs : List V} {ds : List D} {m : Bool} {sp : Spec} {key : D → KK} {Q : VK} (hw : Holds W H) (hs : SqL K H l vs ∨ SqT K H l vs) (r : Reps K W vs ds)
    (hk : ∀ y ∈ ds, sp.pre [y] ∧ (∀ d, sp.post [y] d → d = kkD (key y)) ∧ okK (key y))
    (c : ∀ v ys W' H', ys.Perm ds → ys.Pairwise (fun p q => kLt (key q) (key p) = false) → Ext W H W' H' → New K W H W' H' v (.lst ys) → Q v H') : rSortKey K (SpD K [m] .sh sp) fa [.ref l] [.ref fa] H Q := by
  refine ⟨l, vs, rfl, rfl, hs, fun c ks H1 => H c = none ∧ ∃ W1, Ext W H W1 H1 ∧ W1.B c = none ∧ ¬ W1.P c ∧ Reps K W1 ks ((ds.take ks.length).map fun y => kkD (key y)), fun a hn => ?_, fun a ks H1 x hx j hc => ?_, fun a ks H1 hl j hc => ?_⟩
  · obtain ⟨x, hB, hP⟩ := Ext.upd (o := .lst []) hw hn
    exact ⟨hn, W, x, hB, hP, .nil⟩
  · obtain ⟨hn, W1, x1, hB, hP, rk⟩ := j
    obtain ⟨d, hd, rd⟩ := r.get2 hx
    obtain ⟨p1, p2, p3⟩ := hk d (List.mem_of_getElem? hd)
    refine ⟨W1, [d], x1.holds, ?_, p1, fun v d' W' H' hp xx rr => ?_⟩
    · cases m with
      | true => exact .sh (rd.le x1.le) .nil
      | false => exact .bo (.rep (rd.le x1.le)) .nil
    · have e := p2 d' hp
      subst e
      have rr : Rep K W' v (kkD (key d)) := rr
      have hc' := xx.fr a _ hc hP
      have hB' : W'.B a = none := by
        cases e : W'.B a with
        | none => rfl
        | some u =>
          rcases xx.nb a u e with q | ⟨q, _⟩
          · rw [hB] at q; cases q
          · rw [hc] at q; cases q
      have hP' : ¬ W'.P a := fun q => by
        rcases xx.np a q with q | q
        · exact hP q
        · rw [hc] at q; cases q
      refine ⟨hc', hn, W', Ext.over (x1.trans hw xx) hn hB' hP', hB', hP', ?_⟩
      have e3 : (ds.take (ks ++ [v]).length).map (fun y => kkD (key y)) = (ds.take ks.length).map (fun y => kkD (key y)) ++ [kkD (key d)] := by
        rw [List.length_append, show ks.length + [v].length = ks.length + 1 from rfl, List.take_succ, hd, List.map_append]
        rfl
      rw [e3]
      exact (rk.le xx.le).append (.cons rr .nil)
  · obtain ⟨hn, W1, x1, hB, hP, rk⟩ := j
    have hll : ds.length = vs.length := r.length.symm
    have et : ds.take ks.length = ds := by rw [hl, ← hll]; exact List.take_length
    rw [et] at rk
    refine ⟨ds.map key, by rw [List.length_map]; exact hll, fun i v d e1 e2 => ?_, fun ys b hp hs' hb hne hb0 => ?_⟩
    · rw [List.getElem?_map, Option.map_eq_some_iff] at e2
      obtain ⟨y, ey, rfl⟩ := e2
      obtain ⟨_, _, ok⟩ := hk y (List.mem_of_getElem? ey)
      obtain ⟨d', e3, rd⟩ := rk.get2 e1
      rw [List.getElem?_map, ey] at e3
      cases e3
      exact keyV_of x1.holds rd ok
    · have ez := zip_key key hll
      rw [ez] at hp
      obtain ⟨zs, hz, rfl⟩ := perm_of_map hp _ rfl
      have rz : Reps K W (zs.map (·.1)) (zs.map (·.2)) := Reps.unzip fun p hp' => r.zip p (hz.mem_iff.mp hp')
      have x2 := Ext.over (o := .lst []) x1 hn hB hP
      have hba : (upd H1 a (.lst [])) b = none := by rw [L2.upd_ne hne]; exact hb
      obtain ⟨x3, n3⟩ := new_obj (o := .lst (zs.map (·.1))) x2.holds (.lst (rz.le x2.le)) hba
      have em : (zs.map fun p => (key p.2, p.1)).map (·.2) = zs.map (·.1) := by rw [List.map_map]; rfl
      rw [em]
      refine c (.ref b) (zs.map (·.2)) W1 _ ?_ ?_ (x2.trans hw x3) (n3.ext hw x2)
      · have := hz.map (fun p : V × D => p.2)
        rw [List.map_snd_zip (by omega)] at this
        exact this
      · rw [List.pairwise_map] at hs' ⊢
        exact hs'
theorem ef_sortK {x y : Str} {m : Bool} {sp : Spec} {k' : Nat} {p p2 p3 pos : Pos} {e : Expr} {we : WE} (c : Cal P w K mg base k' y [m] .sh sp) (hm : mg x = none) (ha : EV F e we) (hx : x = "sorted" := by rfl) (hl : k' + 2 ≤ k := by decide) (hg : GlS sc x := by rfl) (hg2 : GlS sc y := by rfl)
    (hdb : (x == ("__debug__" : Str)) = false := by decide) (hdb2 : (y == ("__debug__" : Str)) = false := by decide)
    (he : ∀ j : F.ι, backTo pos (starEach [e] (F.X j).env) = (false, eval e (F.X j).env) :: backTo pos (starEach [] (F.X j).env) := by intro _; rfl) (hpl : ∀ j : F.ι, (backTo pos (starEach [e] (F.X j).env)).any (·.1) = false := by intro _; rfl)
    (hs : ∀ j : F.ι, starEach [e] (F.X j).env = (false, eval e (F.X j).env) :: starEach [] (F.X j).env := by intro _; rfl) :
    EF F (.Call (.Name x p) [e] [⟨some "key", .Name y p2, p3⟩] pos) (wSortK sp we) := by
  obtain ⟨f, fd, ps, h1, h2, h3, h4⟩ := c
  obtain ⟨te, a1, a2⟩ := ha
  subst hx
  have cr : ∀ j : F.ι, CallRK (F.X j) (.builtin "sorted") [Str.ofString "key"] (rSortKey K (SpD K [m] .sh sp) f) := fun j => by
    have G' : FnOk (F.X j).prog (F.X j).w (F.X j).K (F.X j).mg (F.X j).base CX0 k' f fd ps (SpD K [m] .sh sp) := by
      rw [F.prog, F.w', F.K', F.mg', F.base']
      exact h4
    have := cr_sortKey G' ((F.room j).mono hl) (by rw [F.K']; exact h3)
    rw [F.K'] at this
    exact this
  refine ⟨_, fun j => pe_callBK (cr j) (gl_of hg j) (by rw [F.mg']; exact hm) bt_sorted (pa_cons (a1 j) pa_nil (hs j)) (pk_cons (pe_glob (gl_of hg2 j) (by rw [F.mg']; exact h1) (v := .ref f) rfl hdb2) pk_nil) (by decide) hdb (he j) (hpl j), fun C Γ σ W H q Q s hw cc => ?_⟩
  refine a2 C Γ σ W H _ _ s hw fun v d W1 H1 hq x1 r => ?_
  cases d <;> first
    | exact (hq : False).elim
    | skip
  · rename_i ds
    obtain ⟨key, hk, fin⟩ := hq
    obtain ⟨a, vs, rfl, qa, ra⟩ := r.tup x1.holds
    exact sort_core x1.holds (.inr qa) ra hk fun v ys W' H' hp hs' x' n => cc v (.lst ys) W' H' (fin ys hp hs') (x1.trans s.holds x') (n.ext s.holds x1)
  · rename_i ds
    obtain ⟨key, hk, fin⟩ := hq
    obtain ⟨a, vs, rfl, qa, ra⟩ := r.lst x1.holds
    exact sort_core x1.holds (.inl (.of qa)) ra hk fun v ys W' H' hp hs' x' n => cc v (.lst ys) W' H' (fin ys hp hs') (x1.trans s.holds x') (n.ext s.holds x1)
end
theorem kp_ow (i : Nat) (Γ : Gam) : keepAt i Γ Γ := rfl
/-! ### a constant of a module: a tuple of texts -/
def isStrs : List Value → List (List Nat) → Bool
  | [], [] => true
  | .str s _ :: vs, c :: cs => s.cps.toList == c && isStrs vs cs
  | _, _ => false
theorem isStrs_vals : ∀ {vs : List Value} {cs : List (List Nat)}, isStrs vs cs = true → Vals (cs.map fun c => V.str (S c)) vs
  | [], [], _ => .nil
  | [], _ :: _, h => by cases h
  | v :: vs, [], h => by cases v <;> cases h
  | v :: vs, c :: cs, h => by
    cases v with
    | str s t =>
      have h : (s.cps.toList == c && isStrs vs cs) = true := h
      rw [Bool.and_eq_true, beq_iff_eq] at h
      refine .cons ?_ (isStrs_vals h.2)
      obtain ⟨a⟩ := s
      exact ⟨t, by show Value.str ⟨a⟩ t = Value.str ⟨c.toArray⟩ t; rw [← h.1]⟩
    | _ => cases h
theorem rep_strs {K : PySem.W.Frag} {W : Wd} {a : Addr} {od : Option Addr} {its : Array Value} {n : Nat} {sl : Array (Option Value)} {cs : List (List Nat)} (l : K.lookup a = some ⟨.type "tuple", od, .seq its n, sl⟩) (v : isStrs its.toList cs = true) (hz : cs.length ≤ SZ) :
    Rep K W (.ref a) (.tup (cs.map .str)) := by
  have hv := isStrs_vals v
  refine .tup (.inr ⟨_, its, n, l, rfl, rfl, ?_, hv⟩) (Reps.strs cs)
  have := hv.length
  rw [List.length_map] at this
  have e : its.toList.length = its.size := Array.length_toList
  rw [← e, ← this, ← SZ_eq]
  exact hz
end DL

/-! DSortL: sorted of tuples that their first three whole numbers tell apart. -/
namespace DL
open PySem PySem.Spec PyProof.Rows L2
variable [WW]
theorem lt3_iff {p q : K3} : lt3 p q = true ↔ p.1 < q.1 ∨ (p.1 = q.1 ∧ (p.2.1 < q.2.1 ∨ (p.2.1 = q.2.1 ∧ p.2.2 < q.2.2))) := by unfold lt3; exact decide_eq_true_iff
theorem lt3_no {p q : K3} : lt3 p q = false ↔ ¬ (p.1 < q.1 ∨ (p.1 = q.1 ∧ (p.2.1 < q.2.1 ∨ (p.2.1 = q.2.1 ∧ p.2.2 < q.2.2)))) := by unfold lt3; exact decide_eq_false_iff_not
theorem lt3_swo {α : Type} (f : α → K3) : SrtO.Swo fun p q => lt3 (f p) (f q) := by
  refine ⟨fun x y h => ?_, fun x y z h g => ?_⟩
  · have := lt3_iff.mp h
    exact lt3_no.mpr (by omega)
  · have a := lt3_no.mp h
    have b := lt3_no.mp g
    exact lt3_no.mpr (by omega)
/-- the tuple u begins with the three -/
def At3 (h : Heap) (u : Value) (k : K3) : Prop := ∃ a o its n t1 t2 t3 rest, u = .ref a ∧ h.get? a = some o ∧ o.cls = .type "tuple" ∧ o.data = .seq its n ∧ its.toList = .int k.1 t1 :: .int k.2.1 t2 :: .int k.2.2 t3 :: rest
theorem at3_inj {h : Heap} {u : Value} {k l : K3} (x : At3 h u k) (y : At3 h u l) : k = l := by
  obtain ⟨a, o, its, n, t1, t2, t3, r, rfl, ho, _, hd, e⟩ := x
  obtain ⟨a', o', its', n', t1', t2', t3', r', e0, ho', _, hd', e'⟩ := y
  cases e0
  rw [ho] at ho'
  cases ho'
  rw [hd] at hd'
  cases hd'
  rw [e] at e'
  obtain ⟨k1, k2, k3⟩ := k
  obtain ⟨l1, l2, l3⟩ := l
  cases e'
  rfl
theorem firsts3 {h : Heap} : ∀ {us : List Value}, (∀ v ∈ us, ∃ k, At3 h v k) → ∃ fs, PySem.W.KatTups h us fs ∧ fs.length = us.length ∧ ∀ f ∈ fs, ∃ x t, f = Value.int x t
  | [], _ => ⟨[], PySem.W.KatTups.nil, rfl, fun f q => (List.not_mem_nil q).elim⟩
  | v :: us, q => by
    obtain ⟨k, a, o, its, n, t1, t2, t3, r, rfl, ho, hc, hd, e⟩ := q v (List.mem_cons_self ..)
    obtain ⟨fs, r1, r2, r3⟩ := firsts3 fun w hw => q w (List.mem_cons_of_mem _ hw)
    refine ⟨.int k.1 t1 :: fs, PySem.W.KatTups.cons ho hc hd (by rw [← Array.getElem?_toList, e]; rfl) r1, by rw [List.length_cons, List.length_cons, r2], fun f hf => ?_⟩
    rcases List.mem_cons.mp hf with e | hf
    · exact ⟨_, _, e⟩
    · exact r3 f hf
mutual
theorem alike_self : ∀ (n : Nat) (d : D), d.plain n = true → PySem.W.alike d.py d.py = true
  | _, .non, _ => rfl
  | _, .bl _, _ => rfl
  | _, .int _, _ => rfl
  | _, .str _, _ => rfl
  | n + 1, .tup ds, h => alikes_self n ds (by simpa [D.plain] using h)
  | n + 1, .lst ds, h => alikes_self n ds (by simpa [D.plain] using h)
  | 0, .tup _, h => by simp [D.plain] at h
  | 0, .lst _, h => by simp [D.plain] at h
  | n, .dic _, h => by cases n <;> simp [D.plain] at h
  | n, .dit _, h => by cases n <;> simp [D.plain] at h
  | n, .tok, h => by cases n <;> simp [D.plain] at h
  | n, .scr _, h => by cases n <;> simp [D.plain] at h
theorem alikes_self : ∀ (n : Nat) (ds : List D), D.plains n ds = true → PySem.W.alikeAll (D.pys ds) (D.pys ds) = true
  | _, [], _ => rfl
  | n, d :: ds, h => by
    have h : (d.plain n && D.plains n ds) = true := by cases n <;> simpa [D.plains] using h
    rw [Bool.and_eq_true] at h
    show (PySem.W.alike d.py d.py && PySem.W.alikeAll (D.pys ds) (D.pys ds)) = true
    rw [alike_self n d h.1, alikes_self n ds h.2]
    rfl
end
section
variable {X : Cx} {pins : List (Addr × Obj)} {σ : L2.St} {H : Hp} {s : Shared} {W : Wd}
theorem at3_of (I : L2.Inv X pins σ H s) (hw : Holds W H) {v : V} {u : Value} {d : D} {k : K3} (r : Rep X.K W v d) (rv : L2.RelV v u) (h : isK3 d k) : At3 s.heap u k := by
  obtain ⟨rest, rfl⟩ := h
  cases r with
  | tup q rs =>
    cases (show u = Value.ref _ from rv)
    obtain ⟨its, rv, ⟨o, ho, hc, n, hd⟩, _⟩ := I.tuple (hw.seqT q)
    cases rs with
    | cons r1 rs => cases rs with
      | cons r2 rs => cases rs with
        | cons r3 rs =>
          cases r1; cases r2; cases r3
          cases rv with
          | cons e1 rv => cases rv with
            | cons e2 rv => cases rv with
              | cons e3 rv =>
                obtain ⟨t1, rfl⟩ := e1
                obtain ⟨t2, rfl⟩ := e2
                obtain ⟨t3, rfl⟩ := e3
                exact ⟨_, o, _, n, t1, t2, t3, _, rfl, ho, hc, hd, rfl⟩
/-- two such tuples compared -/
theorem cmp3 (I : L2.Inv X pins σ H s) (hw : Holds W H) (hu : X.A.units + 70 < cLine) {its : List Value} {dec : Value → K3} (h : ∀ u ∈ its, ∃ v d, L2.RelV v u ∧ Rep X.K W v d ∧ isK3 d (dec u) ∧ d.plain 60 = true)
    (heq : ∀ u ∈ its, ∀ u' ∈ its, dec u = dec u' → ∃ v v' d, L2.RelV v u ∧ L2.RelV v' u' ∧ Rep X.K W v d ∧ Rep X.K W v' d ∧ isK3 d (dec u) ∧ d.plain 60 = true) (A : Around) (hA : A.units + 64 < cLine) :
    SrtO.Cmp X.prog X.w A s (tuples' true) (fun p => p.1 ∈ its) fun p q => lt3 (dec p.1) (dec q.1) := by
  intro p q hp hq
  show wpAny (model X.prog X.w) A (keyLt' (tuples' true) p.1 q.1) (fun r s' => s' = s ∧ r = lt3 (dec p.1) (dec q.1)) (fun _ _ => False) s
  by_cases e : dec p.1 = dec q.1
  · obtain ⟨v, v', d, r1, r2, q1, q2, ⟨rest, rfl⟩, hpl⟩ := heq _ hp _ hq e
    obtain ⟨as, rd⟩ := Dp.reads I _ v p.1 (View.dp hw hpl (.rep q1)) r1
    obtain ⟨bs, re⟩ := Dp.reads I _ v' q.1 (View.dp hw hpl (.rep q2)) r2
    have al := alike_self 60 _ hpl
    have dp := py_depth hpl
    have e2 : lt3 (dec p.1) (dec q.1) = false := by rw [e]; exact (lt3_swo id).refl _
    rw [e2]
    clear e2 e q1 q2 r1 r2
    generalize dec p.1 = k at rd re al dp hpl
    generalize p.1 = u at rd ⊢
    generalize q.1 = u' at re ⊢
    cases rd with
    | @tuple a o vs n xs as' ho hc hd ra =>
      cases re with
      | @tuple a' o' vs' n' xs' as'' ho' hc' hd' ra' =>
        refine PySem.W.kat_lt ho hd ho' hd' ?_
        have l1 := PySem.SeqAt.ReadsAll.length _ _ _ ra
        have l2 := PySem.SeqAt.ReadsAll.length _ _ _ ra'
        rw [Array.length_toList] at l1 l2
        refine PySem.W.katLex_alike _ _ 0 _ _ _ _ ra ra' al ?_ (fun _ _ x r t e3 => ?_) (by rw [l1, l2]) ⟨rfl, ?_⟩
        · have : PyData.depthAll (D.pys (.int k.1 :: .int k.2.1 :: .int k.2.2 :: rest)) + 1 ≤ 60 := dp
          rw [Nat.min_self]
          omega
        · have e3 : PyData.int k.1 :: _ = x :: r := e3
          cases e3
          exact fun z => nomatch z
        · exact PyProof.Rows.lex_irrefl _
  · obtain ⟨v, d, r1, q1, k1, _⟩ := h _ hp
    obtain ⟨v', d', r2, q2, k2, _⟩ := h _ hq
    obtain ⟨a, o, vs, n, t1, t2, t3, rest, e1, ho, hc, hd, el⟩ := at3_of I hw q1 r1 k1
    obtain ⟨a', o', vs', n', t1', t2', t3', rest', e1', ho', hc', hd', el'⟩ := at3_of I hw q2 r2 k2
    rw [e1, e1']
    refine PySem.W.kat_lt ho hd ho' hd' ?_
    rw [el, el']
    rw [← e1, ← e1']
    generalize dec p.1 = k at *
    generalize dec q.1 = l at *
    obtain ⟨x, y, z⟩ := k
    obtain ⟨x', y', z'⟩ := l
    show PySem.W.KatLex X.prog X.w A true _ _ ((.int x t1, .int x' t1') :: (.int y t2, .int y' t2') :: (.int z t3, .int z' t3') :: rest.zip rest') 0 s
    refine PySem.W.kat_cons (SeqAt.EqAt.int_int x t1 x' t1' X.prog X.w _ _ ?_)
    refine PySem.W.kat_go (fun c1 => ?_) fun c1 => ?_
    · have c1 : x = x' := by simpa using c1
      refine PySem.W.kat_yes (PySem.W.kat_cons (SeqAt.EqAt.int_int y t2 y' t2' X.prog X.w _ _ ?_))
      refine PySem.W.kat_go (fun c2 => ?_) fun c2 => ?_
      · have c2 : y = y' := by simpa using c2
        refine PySem.W.kat_yes (PySem.W.kat_cons (SeqAt.EqAt.int_int z t3 z' t3' X.prog X.w _ _ ?_))
        refine PySem.W.kat_go (fun c3 => ?_) fun c3 => ?_
        · have c3 : z = z' := by simpa using c3
          exact absurd (by rw [c1, c2, c3]) e
        · have c3 : ¬ z = z' := by simpa using c3
          refine PySem.W.kat_no (TS.oneLt_ints _ ⟨rfl, ?_⟩)
          unfold lt3
          exact decide_eq_decide.mpr (by show z < z' ↔ x < x' ∨ (x = x' ∧ (y < y' ∨ (y = y' ∧ z < z'))); omega)
      · have c2 : ¬ y = y' := by simpa using c2
        refine PySem.W.kat_no (TS.oneLt_ints _ ⟨rfl, ?_⟩)
        unfold lt3
        exact decide_eq_decide.mpr (by show y < y' ↔ x < x' ∨ (x = x' ∧ (y < y' ∨ (y = y' ∧ z < z'))); omega)
    · have c1 : ¬ x = x' := by simpa using c1
      refine PySem.W.kat_no (TS.oneLt_ints _ ⟨rfl, ?_⟩)
      unfold lt3
      exact decide_eq_decide.mpr (by show x < x' ↔ x < x' ∨ (x = x' ∧ (y < y' ∨ (y = y' ∧ z < z'))); omega)
/-- sorted(l) -/
def rSort3 (K : PySem.W.Frag) : List V → Hp → VK → Prop := fun vs H Q => ∃ W a xs ds key, vs = [V.ref a] ∧ Holds W H ∧ SqL K H a xs ∧ Reps K W xs ds ∧ okK3 key ds ∧
  ∀ (zs : List (V × D)) (p : Addr), zs.Perm (xs.zip ds) → zs.Pairwise (fun x y => lt3 (key y.2) (key x.2) = false) → H p = none → Q (.ref p) (L2.upd H p (.lst (zs.map (·.1))))
theorem zip3 {α β γ : Type} : ∀ {as : List α} {bs : List β} {cs : List γ}, as.length = bs.length → bs.length = cs.length → (as.zip (bs.zip cs)).map (·.1) = as ∧ (as.zip (bs.zip cs)).map (·.2) = bs.zip cs
  | [], [], [], _, _ => ⟨rfl, rfl⟩
  | a :: as, b :: bs, c :: cs, h1, h2 => by
    obtain ⟨e1, e2⟩ := zip3 (as := as) (bs := bs) (cs := cs) (by simpa using h1) (by simpa using h2)
    simp only [List.zip_cons_cons, List.map_cons, e1, e2, and_self]
  | [], _ :: _, _, h, _ => by cases h
  | _ :: _, [], _, h, _ => by cases h
  | [], [], _ :: _, _, h => by cases h
  | _ :: _, _ :: _, [], _, h => by cases h
theorem zip_mem3 : ∀ {its : List Value} {xs : List V} {ds : List D} {K : PySem.W.Frag} {W : Wd}, Vals xs its → Reps K W xs ds → ∀ t ∈ its.zip (xs.zip ds), L2.RelV t.2.1 t.1 ∧ Rep K W t.2.1 t.2.2 ∧ t.2.2 ∈ ds
  | _, _, _, _, _, .nil, .nil, t, h => by cases h
  | _, _, _, _, _, .cons e1 r1, .cons e2 r2, t, h => by
    rw [List.zip_cons_cons, List.zip_cons_cons] at h
    rcases List.mem_cons.mp h with e | h
    · subst e; exact ⟨e1, e2, List.mem_cons_self ..⟩
    · obtain ⟨a, b, c⟩ := zip_mem3 r1 r2 t h
      exact ⟨a, b, List.mem_cons_of_mem _ c⟩
theorem cr_sort3 (hu : X.A.units + 70 < cLine) : CallR X (.builtin "sorted") (rSort3 X.K) := by
  intro pins s σ H vs us Q I r h
  obtain ⟨W, a, xs, ds, key, rfl, hw, hs, rr, ⟨k1, k2⟩, hQ⟩ := h
  obtain rfl := Vals.ref1 r
  obtain ⟨its, rv, hl, hz⟩ := I.list hs
  have l1 : its.length = xs.length := rv.length.symm
  have l2 : xs.length = ds.length := rr.length
  obtain ⟨T, hT⟩ : ∃ T, its.zip (xs.zip ds) = T := ⟨_, rfl⟩
  have t1 : T.map (·.1) = its := by rw [← hT]; exact (zip3 l1 l2).1
  have t2 : T.map (·.2) = xs.zip ds := by rw [← hT]; exact (zip3 l1 l2).2
  have tm : ∀ t ∈ T, L2.RelV t.2.1 t.1 ∧ Rep X.K W t.2.1 t.2.2 ∧ t.2.2 ∈ ds := by rw [← hT]; exact zip_mem3 rv rr
  have im : ∀ u ∈ its, ∃ t ∈ T, t.1 = u := fun u hu => by
    rw [← t1] at hu
    obtain ⟨t, ht, e⟩ := List.mem_map.mp hu
    exact ⟨t, ht, e⟩
  classical
  obtain ⟨dec, hdec⟩ : ∃ dec : Value → K3, ∀ u k, At3 s.heap u k → dec u = k := ⟨fun u => if h : ∃ k, At3 s.heap u k then h.choose else (0, 0, 0), fun u k h => by
    have hex : ∃ k, At3 s.heap u k := ⟨k, h⟩
    show (if h : ∃ k, At3 s.heap u k then h.choose else (0, 0, 0)) = k
    rw [dif_pos hex]
    exact at3_inj hex.choose_spec h⟩
  have td : ∀ t ∈ T, dec t.1 = key t.2.2 := fun t ht => by
    obtain ⟨a1, a2, a3⟩ := tm t ht
    exact hdec _ _ (at3_of I hw a2 a1 (k1 _ a3).1)
  refine SrtO.sorted_ord (ltv := fun u v => lt3 (dec u) (dec v)) (lt3_swo dec) hl.isList (by rw [l1]; exact hz) (fun h2 h₁ b hb kk => ?_) fun out hso hst => ?_
  · intro h' keep
    have I' : L2.Inv X pins σ H { s with heap := h' } := I.kept (t' := s.toks) fun c o q => keep c o (kk c o q).1 (kk c o q).2
    have ex : ∀ u ∈ its, ∃ k, At3 h' u k := fun u hu => by
      obtain ⟨t, ht, rfl⟩ := im u hu
      obtain ⟨a1, a2, a3⟩ := tm t ht
      exact ⟨_, at3_of I' hw a2 a1 (k1 _ a3).1⟩
    obtain ⟨fs, f1, f2, f3⟩ := firsts3 ex
    refine ⟨tuples' true, fun Q' E' hq => ?_, ?_⟩
    · refine PySem.W.kat_kind (T := .type "int") f1 (by omega) (fun f hm => ?_) (by rfl) ?_
      · obtain ⟨x, t, rfl⟩ := f3 f hm
        exact PySem.W.Looks.now
      · have e : (Value.type "int" != Value.type "tuple") = true := by first | decide +kernel | rfl | decide
        rw [e]
        exact hq
    · refine cmp3 I' hw hu (fun u hu => ?_) (fun u hu u' hu' e => ?_) _ (by rw [Around.in1_units, Around.in1_units]; omega)
      · obtain ⟨t, ht, rfl⟩ := im u hu
        obtain ⟨a1, a2, a3⟩ := tm t ht
        exact ⟨_, _, a1, a2, by rw [td t ht]; exact (k1 _ a3).1, (k1 _ a3).2⟩
      · obtain ⟨t, ht, rfl⟩ := im u hu
        obtain ⟨t', ht', rfl⟩ := im u' hu'
        obtain ⟨a1, a2, a3⟩ := tm t ht
        obtain ⟨b1, b2, b3⟩ := tm t' ht'
        rw [td t ht, td t' ht'] at e
        have ed := k2 _ a3 _ b3 e
        exact ⟨_, _, _, a1, b1, a2, by rw [ed]; exact b2, by rw [td t ht]; exact (k1 _ a3).1, (k1 _ a3).2⟩
  · obtain ⟨T', p1, rfl⟩ := perm_of_map (f := fun t : Value × V × D => t.1) hst.perm T t1.symm
    obtain ⟨ep, he⟩ := PyProof.Rows.sortedAll_at s.heap its (T'.map (·.1)).toArray
    have vz : Vals ((T'.map (·.2)).map (·.1)) (T'.map (·.1)) := by
      have : ∀ t ∈ T', L2.RelV t.2.1 t.1 := fun t ht => (tm t (p1.mem_iff.mp ht)).1
      clear p1 hso hst he
      induction T' with
      | nil => exact .nil
      | cons t T' ih => exact .cons (this t (List.mem_cons_self ..)) (ih fun x hx => this x (List.mem_cons_of_mem _ hx))
    have lz : ((T'.map (·.2)).map (·.1)).length ≤ sizeLine := by
      rw [List.length_map, List.length_map, p1.length_eq, ← List.length_map (f := fun t : Value × V × D => t.1), t1, l1]
      exact hz
    refine ⟨.ref (s.heap.objs.size + 1), L2.upd H (s.heap.objs.size + 1) (.lst ((T'.map (·.2)).map (·.1))), I.laid (t' := s.toks) (fun _ _ => PyProof.Rows.sortedAll_old) (Nat.le_succ _) ⟨lz, _, ep, vz, he⟩, rfl, hQ (T'.map (·.2)) _ ?_ ?_ (I.hok.fresh (Nat.le_succ _))⟩
    · rw [← t2]; exact p1.map _
    · rw [List.pairwise_map]
      have hso' : (T'.map fun t : Value × V × D => t.1).Pairwise (fun x y => lt3 (dec y) (dec x) = false) := hso
      rw [List.pairwise_map] at hso'
      refine hso'.imp_of_mem fun {x y} hx hy q => ?_
      rw [td x (p1.mem_iff.mp hx), td y (p1.mem_iff.mp hy)] at q
      exact q
end
section
variable {P : Program} {w : World} {K : PySem.W.Frag} {mg : Str → Option Value} {base : Heap} {N : List Str} {sc : Scope} {k : Nat}
variable {F : Fam P w K mg base N sc k}
theorem hu70 {k : Nat} {A : Around} (r : Room k A) : A.units + 70 < cLine := by have := r.un; omega
theorem ef_sortL {x : Str} {p pos : Pos} {e : Expr} {we : WE} (hm : mg x = none) (ha : EV F e we) (hx : x = "sorted" := by rfl) (hg : GlS sc x := by rfl) (hn : x ≠ "__name__" := by decide) (hdb : (x == ("__debug__" : Str)) = false := by decide)
    (hs : ∀ j : F.ι, starEach [e] (F.X j).env = (false, eval e (F.X j).env) :: starEach [] (F.X j).env := by intro _; rfl) (hpl : ∀ j : F.ι, (backTo pos (starEach [] (F.X j).env)).any (·.1) = false := by intro _; rfl) :
    EF F (.Call (.Name x p) [e] [] pos) (wSortL we) := by
  obtain ⟨te, a1, a2⟩ := ha
  subst hx
  refine ⟨_, fun j => pe_callB (by
    have := cr_sort3 (X := F.X j) (hu70 (F.room j))
    rw [F.K'] at this
    exact this) (gl_of hg j) (by rw [F.mg']; exact hm) bt_sorted (pa_cons (a1 j) pa_nil (hs j)) hn hdb (hs j) (hpl j), fun C Γ σ W H q Q s hw cc => ?_⟩
  refine a2 C Γ σ W H _ _ s hw fun v d W1 H1 hq x1 r => ?_
  obtain ⟨ds, rfl, key, ok, fin⟩ := kLst_of hq
  obtain ⟨a, vs, rfl, qa, ra⟩ := r.lst x1.holds
  refine ⟨W1, a, vs, ds, key, rfl, x1.holds, .of qa, ra, ok, fun zs p hp hso hn => ?_⟩
  have rz : Reps K W1 (zs.map (·.1)) (zs.map (·.2)) := Reps.unzip fun t ht => ra.zip t (hp.mem_iff.mp ht)
  obtain ⟨x3, n3⟩ := new_obj (o := .lst (zs.map (·.1))) x1.holds (.lst rz) hn
  refine cc (.ref p) (.lst (zs.map (·.2))) W1 _ (fin _ ?_ ?_) (x1.trans s.holds x3) (n3.ext s.holds x1)
  · have := hp.map (fun t : V × D => t.2)
    rw [List.map_snd_zip (by rw [ra.length]; exact Nat.le_refl _)] at this
    exact this
  · rw [List.pairwise_map]
    exact hso
end
end DL

/-! DLaw: loops, comprehensions, dicts over trees. -/
namespace DL
theorem forD_ind {g : WG} {b : WS} {E : DEnds} {keep : Gam → Prop} (I : List D → Gam → Prop) (h0 : ∀ Γ, I [] Γ → E.nx Γ)
    (hs : ∀ d ds Γ (N : Gam → Prop), I (d :: ds) Γ → (∀ Γ', I ds Γ' → N Γ') → g d Γ fun Γ1 => b { nx := fun Γ' => keep Γ' ∧ N Γ', rt := E.rt, bk := E.nx, ct := fun Γ' => keep Γ' ∧ N Γ' } Γ1) :
    ∀ ds Γ, I ds Γ → forD g b E keep ds Γ
  | [], Γ, h => h0 Γ h
  | d :: ds, Γ, h => hs d ds Γ (fun Γ' => forD g b E keep ds Γ') h fun Γ' h' => forD_ind I h0 hs ds Γ' h'
theorem compD_ind {g : WG} {t : WT} {e : WE} {Γ : Gam} {k : List D → Prop} (I : List D → List D → Prop) (h0 : ∀ acc, I [] acc → k acc)
    (hs : ∀ d ds acc (N : List D → Prop), I (d :: ds) acc → (∀ acc', I ds acc' → N acc') → g d Γ fun Γ' => t Γ' fun b => if b = true then e Γ' fun y => acc.length < SZ ∧ N (acc ++ [y]) else N acc) :
    ∀ ds acc, I ds acc → compD g t e Γ k ds acc
  | [], acc, h => h0 acc h
  | d :: ds, acc, h => hs d ds acc (fun a => compD g t e Γ k ds a) h fun acc' h' => compD_ind I h0 hs ds acc' h'

/-! ### == of keys -/
theorem eqv_str (a b : List Nat) : D.eqv (.str a) (.str b) = (a == b) := by unfold D.eqv; rfl
theorem eqv_int (a b : Int) : D.eqv (.int a) (.int b) = (a == b) := by unfold D.eqv; rfl
theorem eqv_bl (a b : Bool) : D.eqv (.bl a) (.bl b) = (a == b) := by unfold D.eqv; rfl
theorem eqv_is (a : Int) (b : List Nat) : D.eqv (.int a) (.str b) = false := by unfold D.eqv; rfl
theorem eqv_si (a : List Nat) (b : Int) : D.eqv (.str a) (.int b) = false := by unfold D.eqv; rfl
theorem eqv_sn (a : List Nat) : D.eqv (.str a) .non = false := by unfold D.eqv; rfl
theorem eqv_in (a : Int) : D.eqv (.int a) .non = false := by unfold D.eqv; rfl
/-- keys of dicts: ints, texts, tuples of such -/
def D.ky : D → Bool
  | .int _ => true
  | .str _ => true
  | .tup xs => D.nbs 7 xs
  | _ => false
theorem key_ky {x : D} (h : x.key = true) : x.ky = true := by cases x <;> first | rfl | cases h
theorem nkey_ky {x : D} (h : x.nkey = true) : x.ky = true := by cases x <;> first | exact h | cases h
theorem ky_nb {x : D} (h : x.ky = true) : x.nb 8 = true := by
  cases x <;> first | rfl | exact h | cases h
mutual
theorem nb_eqv : ∀ (x y : D) (n m : Nat), x.nb n = true → y.nb m = true → (x.eqv y = true ↔ x = y)
  | .tup xs, .tup ys, n, m, hx, hy => by
    have hx : ∃ n, D.nbs n xs = true := by cases n with
      | zero => unfold D.nb at hx; cases hx
      | succ n => exact ⟨n, by unfold D.nb at hx; exact hx⟩
    have hy : ∃ n, D.nbs n ys = true := by cases m with
      | zero => unfold D.nb at hy; cases hy
      | succ n => exact ⟨n, by unfold D.nb at hy; exact hy⟩
    obtain ⟨n, hx⟩ := hx
    obtain ⟨m, hy⟩ := hy
    show D.eqvs xs ys = true ↔ _
    rw [nbs_eqv xs ys n m hx hy, D.tup.injEq]
  | .int a, .int b, _, _, _, _ => by rw [eqv_int]; simp
  | .str a, .str b, _, _, _, _ => by rw [eqv_str]; simp
  | .non, .non, _, _, _, _ => ⟨fun _ => rfl, fun _ => rfl⟩
  | .non, .int _, _, _, _, _ => ⟨fun h => (nomatch h), fun h => (nomatch h)⟩
  | .non, .str _, _, _, _, _ => ⟨fun h => (nomatch h), fun h => (nomatch h)⟩
  | .non, .tup _, _, _, _, _ => ⟨fun h => (nomatch h), fun h => (nomatch h)⟩
  | .int _, .non, _, _, _, _ => ⟨fun h => (nomatch h), fun h => (nomatch h)⟩
  | .int _, .str _, _, _, _, _ => ⟨fun h => (nomatch h), fun h => (nomatch h)⟩
  | .int _, .tup _, _, _, _, _ => ⟨fun h => (nomatch h), fun h => (nomatch h)⟩
  | .str _, .non, _, _, _, _ => ⟨fun h => (nomatch h), fun h => (nomatch h)⟩
  | .str _, .int _, _, _, _, _ => ⟨fun h => (nomatch h), fun h => (nomatch h)⟩
  | .str _, .tup _, _, _, _, _ => ⟨fun h => (nomatch h), fun h => (nomatch h)⟩
  | .tup _, .non, _, _, _, _ => ⟨fun h => (nomatch h), fun h => (nomatch h)⟩
  | .tup _, .int _, _, _, _, _ => ⟨fun h => (nomatch h), fun h => (nomatch h)⟩
  | .tup _, .str _, _, _, _, _ => ⟨fun h => (nomatch h), fun h => (nomatch h)⟩
  | .bl _, _, n, _, h, _ => by cases n <;> (unfold D.nb at h; cases h)
  | .lst _, _, n, _, h, _ => by cases n <;> (unfold D.nb at h; cases h)
  | .dic _, _, n, _, h, _ => by cases n <;> (unfold D.nb at h; cases h)
  | .dit _, _, n, _, h, _ => by cases n <;> (unfold D.nb at h; cases h)
  | .tok, _, n, _, h, _ => by cases n <;> (unfold D.nb at h; cases h)
  | .scr _, _, n, _, h, _ => by cases n <;> (unfold D.nb at h; cases h)
  | _, .bl _, _, m, _, h => by cases m <;> (unfold D.nb at h; cases h)
  | _, .lst _, _, m, _, h => by cases m <;> (unfold D.nb at h; cases h)
  | _, .dic _, _, m, _, h => by cases m <;> (unfold D.nb at h; cases h)
  | _, .dit _, _, m, _, h => by cases m <;> (unfold D.nb at h; cases h)
  | _, .tok, _, m, _, h => by cases m <;> (unfold D.nb at h; cases h)
  | _, .scr _, _, m, _, h => by cases m <;> (unfold D.nb at h; cases h)
theorem nbs_eqv : ∀ (xs ys : List D) (n m : Nat), D.nbs n xs = true → D.nbs m ys = true → (D.eqvs xs ys = true ↔ xs = ys)
  | [], [], _, _, _, _ => ⟨fun _ => rfl, fun _ => rfl⟩
  | [], _ :: _, _, _, _, _ => ⟨fun h => (nomatch h), fun h => (nomatch h)⟩
  | _ :: _, [], _, _, _, _ => ⟨fun h => (nomatch h), fun h => (nomatch h)⟩
  | x :: xs, y :: ys, n, m, hx, hy => by
    unfold D.nbs at hx hy
    rw [Bool.and_eq_true] at hx hy
    show (D.eqv x y && D.eqvs xs ys) = true ↔ _
    rw [Bool.and_eq_true, nb_eqv x y n m hx.1 hy.1, nbs_eqv xs ys n m hx.2 hy.2, List.cons.injEq]
end
theorem eqv_key {x y : D} (hx : x.ky = true) (hy : y.ky = true) : x.eqv y = true ↔ x = y := nb_eqv x y 8 8 (ky_nb hx) (ky_nb hy)
/-! ### dicts -/
def Keyed (kvs : List (D × D)) : Prop := ∀ p ∈ kvs, p.1.ky = true
theorem look_nil (q : D) : look [] q = none := rfl
theorem look_cons {p : D × D} {kvs : List (D × D)} {q : D} : look (p :: kvs) q = if p.1.eqv q = true then some p.2 else look kvs q := by
  unfold look
  rw [List.find?_cons]
  by_cases h : p.1.eqv q = true
  · rw [h, if_pos rfl]; rfl
  · rw [if_neg h, Bool.not_eq_true] at *
    rw [h]
theorem look_none {kvs : List (D × D)} {q : D} (hk : Keyed kvs) (hq : q.ky = true) : look kvs q = none ↔ q ∉ kvs.map (·.1) := by
  induction kvs with
  | nil => simp [look_nil]
  | cons p kvs ih =>
    have ih := ih fun p hp => hk p (List.mem_cons_of_mem _ hp)
    have e := eqv_key (hk p (List.mem_cons_self ..)) hq
    rw [look_cons, List.map_cons, List.mem_cons]
    by_cases h : p.1 = q
    · rw [if_pos (e.2 h)]
      simp [h]
    · rw [if_neg (fun z => h (e.1 z)), ih]
      simp [Ne.symm (a := p.1) (b := q) h]
theorem look_some {kvs : List (D × D)} {q v : D} (hk : Keyed kvs) (hq : q.ky = true) (h : look kvs q = some v) : (q, v) ∈ kvs := by
  induction kvs with
  | nil => cases h
  | cons p kvs ih =>
    rw [look_cons] at h
    by_cases z : p.1.eqv q = true
    · rw [if_pos z] at h
      have e := (eqv_key (hk p (List.mem_cons_self ..)) hq).1 z
      cases h
      subst e
      exact List.mem_cons_self ..
    · rw [if_neg z] at h
      exact List.mem_cons_of_mem _ (ih (fun p hp => hk p (List.mem_cons_of_mem _ hp)) h)
theorem look_mem {kvs : List (D × D)} {q v : D} (hk : Keyed kvs) (hn : (kvs.map (·.1)).Nodup) (h : (q, v) ∈ kvs) : look kvs q = some v := by
  induction kvs with
  | nil => cases h
  | cons p kvs ih =>
    rw [look_cons]
    rw [List.map_cons, List.nodup_cons] at hn
    have hq : q.ky = true := hk _ h
    rcases List.mem_cons.mp h with e | h
    · subst e
      rw [if_pos ((eqv_key hq hq).2 rfl)]
    · rw [if_neg fun z => ?_]
      · exact ih (fun p hp => hk p (List.mem_cons_of_mem _ hp)) hn.2 h
      · have e := (eqv_key (hk p (List.mem_cons_self ..)) hq).1 z
        exact hn.1 (by rw [e]; exact List.mem_map.mpr ⟨_, h, rfl⟩)
theorem put_new {kvs : List (D × D)} {q v : D} (h : look kvs q = none) : put kvs q v = kvs ++ [(q, v)] := by
  unfold put
  rw [h, if_neg (by simp)]
theorem put_old {kvs : List (D × D)} {q v w : D} (h : look kvs q = some w) : put kvs q v = kvs.map fun p => if p.1.eqv q = true then (p.1, v) else p := by
  unfold put
  rw [h, if_pos (by simp)]
theorem put_keys_old {kvs : List (D × D)} {q v w : D} (h : look kvs q = some w) : (put kvs q v).map (·.1) = kvs.map (·.1) := by
  rw [put_old h, List.map_map]
  apply List.map_congr_left
  intro p _
  show (if p.1.eqv q = true then (p.1, v) else p).1 = p.1
  by_cases z : p.1.eqv q = true
  · rw [if_pos z]
  · rw [if_neg z]
theorem put_nodup {kvs : List (D × D)} {q v : D} (hk : Keyed kvs) (hq : q.ky = true) (hn : (kvs.map (·.1)).Nodup) : ((put kvs q v).map (·.1)).Nodup := by
  cases h : look kvs q with
  | none =>
    rw [put_new h, List.map_append, List.nodup_append]
    refine ⟨hn, by simp, fun a ha b hb => ?_⟩
    have e : b = q := by simpa using hb
    subst e
    exact fun z => (look_none hk hq).1 h (z ▸ ha)
  | some w => rw [put_keys_old h]; exact hn
theorem put_len {kvs : List (D × D)} {q v : D} : (put kvs q v).length ≤ kvs.length + 1 := by
  cases h : look kvs q with
  | none => rw [put_new h]; simp
  | some w => rw [put_old h, List.length_map]; omega
theorem put_mem {kvs : List (D × D)} {q v : D} (hk : Keyed kvs) (hq : q.ky = true) {p : D × D} (h : p ∈ put kvs q v) : p = (q, v) ∨ p ∈ kvs := by
  cases z : look kvs q with
  | none =>
    rw [put_new z] at h
    rcases List.mem_append.mp h with h | h
    · exact .inr h
    · exact .inl (by simpa using h)
  | some w =>
    rw [put_old z] at h
    obtain ⟨p', hp, e⟩ := List.mem_map.mp h
    by_cases y : p'.1.eqv q = true
    · rw [if_pos y] at e
      rw [(eqv_key (hk _ hp) hq).1 y] at e
      exact .inl e.symm
    · rw [if_neg y] at e
      exact .inr (e ▸ hp)
theorem look_app {a b : List (D × D)} {q : D} : look (a ++ b) q = match look a q with
    | some v => some v
    | none => look b q := by
  induction a with
  | nil => rfl
  | cons p a ih =>
    rw [List.cons_append, look_cons, look_cons]
    by_cases h : p.1.eqv q = true
    · rw [if_pos h, if_pos h]
    · rw [if_neg h, if_neg h, ih]
theorem look_map {q r v : D} (hq : q.ky = true) (hr : r.ky = true) : ∀ {kvs : List (D × D)}, Keyed kvs → look (kvs.map fun p => if p.1.eqv q = true then (p.1, v) else p) r = if q.eqv r = true then (look kvs r).map (fun _ => v) else look kvs r
  | [], _ => by simp [look_nil]
  | p :: kvs, hk => by
    have ih := look_map (v := v) hq hr (kvs := kvs) fun p hp => hk p (List.mem_cons_of_mem _ hp)
    have hp := hk p (List.mem_cons_self ..)
    rw [List.map_cons, look_cons, look_cons, ih]
    by_cases y : p.1.eqv q = true
    · have e := (eqv_key hp hq).1 y
      rw [if_pos y]
      rw [e]
      by_cases z : q.eqv r = true
      · simp [z]
      · simp [z]
    · rw [if_neg y]
      by_cases w : p.1.eqv r = true
      · rw [if_pos w, if_pos w]
        by_cases z : q.eqv r = true
        · exact absurd ((eqv_key hp hr).1 w ▸ (eqv_key hq hr).1 z ▸ (eqv_key hq hq).2 rfl : p.1.eqv q = true) y
        · rw [if_neg z]
      · rw [if_neg w, if_neg w]
theorem look_put {kvs : List (D × D)} {q r v : D} (hk : Keyed kvs) (hq : q.ky = true) (hr : r.ky = true) : look (put kvs q v) r = if q.eqv r = true then some v else look kvs r := by
  cases h : look kvs q with
  | none =>
    rw [put_new h, look_app, look_cons, look_nil]
    by_cases z : q.eqv r = true
    · have e := (eqv_key hq hr).1 z
      subst e
      rw [h, if_pos z]
    · rw [if_neg z, if_neg z]
      cases look kvs r <;> rfl
  | some w =>
    rw [put_old h, look_map hq hr hk]
    by_cases z : q.eqv r = true
    · have e := (eqv_key hq hr).1 z
      subst e
      rw [if_pos z, if_pos z, h]
      rfl
    · rw [if_neg z, if_neg z]
end DL

/-! DRun: the readings where the names' list is given (printed by mkrun.py). -/
namespace DL
theorem r_wVar (i : Nat) (c₀ : Cel) (Γ : Gam) (k : D → Prop) : wVar i (c₀ :: Γ) k = (cellSh (c₀ :: Γ)[i]? k) := propext ⟨id, id⟩
theorem r_wView (i : Nat) (c₀ : Cel) (Γ : Gam) (k : D → Prop) : wView i (c₀ :: Γ) k = (cellVw (c₀ :: Γ)[i]? k) := propext ⟨id, id⟩
theorem r_wOwn (i : Nat) (c₀ : Cel) (Γ : Gam) (k : D → Prop) : wOwn i (c₀ :: Γ) k = (cellOw (c₀ :: Γ)[i]? fun _ d => k d) := propext ⟨id, id⟩
theorem r_wC (d : D) (c₀ : Cel) (u0 : Gam) (k : D → Prop) : wC d (c₀ :: u0) k = (k d) := propext ⟨id, id⟩
theorem r_wFlat (w : WE) (c₀ : Cel) (Γ : Gam) (k : D → Prop) : wFlat w (c₀ :: Γ) k = (w (c₀ :: Γ) fun d => d.flat = true ∧ k d) := propext ⟨id, id⟩
theorem r_wNewD  (c₀ : Cel) (u0 : Gam) (k : D → Prop) : wNewD (c₀ :: u0) k = (k (.dic [])) := propext ⟨id, id⟩
theorem r_wNewT  (c₀ : Cel) (u0 : Gam) (k : D → Prop) : wNewT (c₀ :: u0) k = (k (.dit [])) := propext ⟨id, id⟩
theorem r_wOp (o : Op2) (a b : WE) (c₀ : Cel) (Γ : Gam) (k : D → Prop) : wOp o a b (c₀ :: Γ) k = (a (c₀ :: Γ) fun x => b (c₀ :: Γ) fun y => o x y k) := propext ⟨id, id⟩
theorem r_wNeg (a : WE) (c₀ : Cel) (Γ : Gam) (k : D → Prop) : wNeg a (c₀ :: Γ) k = (a (c₀ :: Γ) fun x => kInt x fun i => k (.int (-i))) := propext ⟨id, id⟩
theorem r_wIsN (a : WE) (c₀ : Cel) (Γ : Gam) (k : D → Prop) : wIsN a (c₀ :: Γ) k = (a (c₀ :: Γ) fun x => k (.bl x.isNon)) := propext ⟨id, id⟩
theorem r_wNotN (a : WE) (c₀ : Cel) (Γ : Gam) (k : D → Prop) : wNotN a (c₀ :: Γ) k = (a (c₀ :: Γ) fun x => k (.bl (!x.isNon))) := propext ⟨id, id⟩
theorem r_wIsB (b : Bool) (a : WE) (c₀ : Cel) (Γ : Gam) (k : D → Prop) : wIsB b a (c₀ :: Γ) k = (a (c₀ :: Γ) fun x => k (.bl (x.isBl b))) := propext ⟨id, id⟩
theorem r_wTest (a : WE) (c₀ : Cel) (Γ : Gam) (k : Bool → Prop) : wTest a (c₀ :: Γ) k = (a (c₀ :: Γ) fun x => kBl x k) := propext ⟨id, id⟩
theorem r_wAnd (a b : WT) (c₀ : Cel) (Γ : Gam) (k : Bool → Prop) : wAnd a b (c₀ :: Γ) k = (a (c₀ :: Γ) fun c => if c = true then b (c₀ :: Γ) k else k false) := propext ⟨id, id⟩
theorem r_wOr (a b : WT) (c₀ : Cel) (Γ : Gam) (k : Bool → Prop) : wOr a b (c₀ :: Γ) k = (a (c₀ :: Γ) fun c => if c = true then k true else b (c₀ :: Γ) k) := propext ⟨id, id⟩
theorem r_wNot (a : WT) (c₀ : Cel) (Γ : Gam) (k : Bool → Prop) : wNot a (c₀ :: Γ) k = (a (c₀ :: Γ) fun c => k (!c)) := propext ⟨id, id⟩
theorem r_wAndV (a b : WE) (c₀ : Cel) (Γ : Gam) (k : D → Prop) : wAndV a b (c₀ :: Γ) k = (a (c₀ :: Γ) fun x => kBl x fun c => if c = true then b (c₀ :: Γ) k else k (.bl false)) := propext ⟨id, id⟩
theorem r_wOrV (a b : WE) (c₀ : Cel) (Γ : Gam) (k : D → Prop) : wOrV a b (c₀ :: Γ) k = (a (c₀ :: Γ) fun x => kBl x fun c => if c = true then k (.bl true) else b (c₀ :: Γ) k) := propext ⟨id, id⟩
theorem r_wNotV (a : WE) (c₀ : Cel) (Γ : Gam) (k : D → Prop) : wNotV a (c₀ :: Γ) k = (a (c₀ :: Γ) fun x => kBl x fun c => k (.bl (!c))) := propext ⟨id, id⟩
theorem r_wIf (t : WT) (a b : WE) (c₀ : Cel) (Γ : Gam) (k : D → Prop) : wIf t a b (c₀ :: Γ) k = (t (c₀ :: Γ) fun c => if c = true then a (c₀ :: Γ) k else b (c₀ :: Γ) k) := propext ⟨id, id⟩
theorem r_wChain (o p : Op2) (a b c : WE) (c₀ : Cel) (Γ : Gam) (k : D → Prop) : wChain o p a b c (c₀ :: Γ) k = (a (c₀ :: Γ) fun x => b (c₀ :: Γ) fun y => o x y fun r => kBl r fun t => if t = true then c (c₀ :: Γ) fun z => p y z k else k (.bl false)) := propext ⟨id, id⟩
theorem r_wNil  (c₀ : Cel) (u0 : Gam) (k : List D → Prop) : wNil (c₀ :: u0) k = (k []) := propext ⟨id, id⟩
theorem r_wCons (a : WE) (r : WA) (c₀ : Cel) (Γ : Gam) (k : List D → Prop) : wCons a r (c₀ :: Γ) k = (a (c₀ :: Γ) fun x => r (c₀ :: Γ) fun xs => k (x :: xs)) := propext ⟨id, id⟩
theorem r_wTup (a : WA) (c₀ : Cel) (Γ : Gam) (k : D → Prop) : wTup a (c₀ :: Γ) k = (a (c₀ :: Γ) fun xs => xs.length ≤ SZ ∧ k (.tup xs)) := propext ⟨id, id⟩
theorem r_wLst (a : WA) (c₀ : Cel) (Γ : Gam) (k : D → Prop) : wLst a (c₀ :: Γ) k = (a (c₀ :: Γ) fun xs => xs.length ≤ SZ ∧ k (.lst xs)) := propext ⟨id, id⟩
theorem r_wCall (S : Spec) (a : WA) (c₀ : Cel) (Γ : Gam) (k : D → Prop) : wCall S a (c₀ :: Γ) k = (a (c₀ :: Γ) fun xs => S.pre xs ∧ ∀ d, S.post xs d → k d) := propext ⟨id, id⟩
theorem r_wFn (f : Fn) (a : WA) (c₀ : Cel) (Γ : Gam) (k : D → Prop) : wFn f a (c₀ :: Γ) k = (a (c₀ :: Γ) fun xs => f xs k) := propext ⟨id, id⟩
theorem r_wIsI (t : Ty) (a : WE) (c₀ : Cel) (Γ : Gam) (k : D → Prop) : wIsI t a (c₀ :: Γ) k = (a (c₀ :: Γ) fun x => x.dat = true ∧ k (.bl (x.isTy t))) := propext ⟨id, id⟩
theorem r_woN  (c₀ : Cel) (u0 : Gam) (k : Option Int → Prop) : woN (c₀ :: u0) k = (k none) := propext ⟨id, id⟩
theorem r_woS (a : WE) (c₀ : Cel) (Γ : Gam) (k : Option Int → Prop) : woS a (c₀ :: Γ) k = (a (c₀ :: Γ) fun x => kInt x fun i => k (some i)) := propext ⟨id, id⟩
theorem r_wSlice (a : WE) (lo hi : WO) (c₀ : Cel) (Γ : Gam) (k : D → Prop) : wSlice a lo hi (c₀ :: Γ) k = (a (c₀ :: Γ) fun x => lo (c₀ :: Γ) fun l => hi (c₀ :: Γ) fun h => match x with
  | .lst s => k (.lst (cutD s l h))
  | .tup s => k (.tup (cutD s l h))
  | .str s => s.length ≤ SZ ∧ k (.str (cutD s l h))
  | _ => False) := propext ⟨id, id⟩
theorem r_wMt (m : Mt) (o : WE) (a : WA) (c₀ : Cel) (Γ : Gam) (k : D → Prop) : wMt m o a (c₀ :: Γ) k = (o (c₀ :: Γ) fun x => kStr x fun s => a (c₀ :: Γ) fun xs => m s xs k) := propext ⟨id, id⟩
theorem r_wMt0 (m : Mt0) (o : WE) (c₀ : Cel) (Γ : Gam) (k : D → Prop) : wMt0 m o (c₀ :: Γ) k = (o (c₀ :: Γ) fun x => kStr x fun s => m s k) := propext ⟨id, id⟩
theorem r_wRange1 (a : WE) (c₀ : Cel) (Γ : Gam) (k : List D → Prop) : wRange1 a (c₀ :: Γ) k = (a (c₀ :: Γ) fun x => kInt x fun n => (-(2 ^ 62) ≤ n ∧ n < 2 ^ 62) ∧ k ((List.range n.toNat).map fun i => .int (i : Nat))) := propext ⟨id, id⟩
theorem r_wRange2 (a b : WE) (c₀ : Cel) (Γ : Gam) (k : List D → Prop) : wRange2 a b (c₀ :: Γ) k = (a (c₀ :: Γ) fun x => b (c₀ :: Γ) fun y => kInt x fun m => kInt y fun n => (-(2 ^ 62) ≤ m ∧ m < 2 ^ 62 ∧ -(2 ^ 62) ≤ n ∧ n < 2 ^ 62) ∧ k ((List.range (n - m).toNat).map fun i => .int (m + (i : Nat)))) := propext ⟨id, id⟩
theorem r_wItems (a : WE) (c₀ : Cel) (Γ : Gam) (k : List D → Prop) : wItems a (c₀ :: Γ) k = (a (c₀ :: Γ) fun x => match x with
  | .lst s => k s
  | .tup s => k s
  | .str s => k (s.map fun c => .str [c])
  | _ => False) := propext ⟨id, id⟩
theorem r_wBoIt (i : Nat) (c₀ : Cel) (Γ : Gam) (k : List D → Prop) : wBoIt i (c₀ :: Γ) k = (boIt (c₀ :: Γ)[i]? k) := propext ⟨id, id⟩
theorem r_wOwIt (i : Nat) (c₀ : Cel) (Γ : Gam) (k : List D → Prop) : wOwIt i (c₀ :: Γ) k = (owIt (c₀ :: Γ)[i]? k) := propext ⟨id, id⟩
theorem r_wKeys (i : Nat) (c₀ : Cel) (Γ : Gam) (k : List D → Prop) : wKeys i (c₀ :: Γ) k = (dicIt (c₀ :: Γ)[i]? k) := propext ⟨id, id⟩
theorem r_gNm (i : Nat) (c₀ : Cel) (d : D) (Γ : Gam) (k : Gam → Prop) : gNm i d (c₀ :: Γ) k = (k ((c₀ :: Γ).set i (.sh d))) := propext ⟨id, id⟩
theorem r_gsNil  (c₀ : Cel) (ds : List D) (Γ : Gam) (k : Gam → Prop) : gsNil ds (c₀ :: Γ) k = (ds = [] ∧ k (c₀ :: Γ)) := propext ⟨id, id⟩
theorem r_gsCons (g : WG) (r : WGs) (c₀ : Cel) (ds : List D) (Γ : Gam) (k : Gam → Prop) : gsCons g r ds (c₀ :: Γ) k = (match ds with
  | d :: ds => g d (c₀ :: Γ) fun Γ' => r ds Γ' k
  | _ => False) := propext ⟨id, id⟩
theorem r_gTp (n : Nat) (g : WGs) (c₀ : Cel) (d : D) (Γ : Gam) (k : Gam → Prop) : gTp n g d (c₀ :: Γ) k = (match d with
  | .tup ds => ds.length = n ∧ g ds (c₀ :: Γ) k
  | _ => False) := propext ⟨id, id⟩
theorem r_wYes  (c₀ : Cel) (u0 : Gam) (k : Bool → Prop) : wYes (c₀ :: u0) k = (k true) := propext ⟨id, id⟩
theorem r_wComp (own : List Nat) (i : WI) (g : WG) (t : WT) (e : WE) (c₀ : Cel) (Γ : Gam) (k : D → Prop) : wComp own i g t e (c₀ :: Γ) k = (i (c₀ :: Γ) fun ds => compD g t e (wipeD (c₀ :: Γ) own) (fun acc => k (.lst acc)) ds []) := propext ⟨id, id⟩
theorem r_wDCompT (own : List Nat) (i : WI) (g : WG) (t : WT) (e f : WE) (c₀ : Cel) (Γ : Gam) (k : D → Prop) : wDCompT own i g t e f (c₀ :: Γ) k = (i (c₀ :: Γ) fun ds => dcompT g t e f (wipeD (c₀ :: Γ) own) (fun acc => k (.dit acc)) ds []) := propext ⟨id, id⟩
theorem r_wDComp (own : List Nat) (i : WI) (g : WG) (t : WT) (e f : WE) (c₀ : Cel) (Γ : Gam) (k : D → Prop) : wDComp own i g t e f (c₀ :: Γ) k = (i (c₀ :: Γ) fun ds => dcompD g t e f (wipeD (c₀ :: Γ) own) (fun acc => k (.dic acc)) ds []) := propext ⟨id, id⟩
theorem r_wNext  (c₀ : Cel) (E : DEnds) (Γ : Gam) : wNext E (c₀ :: Γ) = (E.nx (c₀ :: Γ)) := propext ⟨id, id⟩
theorem r_wSeq (a b : WS) (c₀ : Cel) (E : DEnds) (Γ : Gam) : wSeq a b E (c₀ :: Γ) = (a { E with nx := fun Γ' => b E Γ' } (c₀ :: Γ)) := propext ⟨id, id⟩
theorem r_wBreak  (c₀ : Cel) (E : DEnds) (Γ : Gam) : wBreak E (c₀ :: Γ) = (E.bk (c₀ :: Γ)) := propext ⟨id, id⟩
theorem r_wCont  (c₀ : Cel) (E : DEnds) (Γ : Gam) : wCont E (c₀ :: Γ) = (E.ct (c₀ :: Γ)) := propext ⟨id, id⟩
theorem r_wExpr (a : WE) (c₀ : Cel) (E : DEnds) (Γ : Gam) : wExpr a E (c₀ :: Γ) = (a (c₀ :: Γ) fun _ => E.nx (c₀ :: Γ)) := propext ⟨id, id⟩
theorem r_wRet (a : WE) (c₀ : Cel) (E : DEnds) (Γ : Gam) : wRet a E (c₀ :: Γ) = (a (c₀ :: Γ) E.rt) := propext ⟨id, id⟩
theorem r_wRetN  (c₀ : Cel) (E : DEnds) (u1 : Gam) : wRetN E (c₀ :: u1) = (E.rt .non) := propext ⟨id, id⟩
theorem r_wIfS (t : WT) (a b : WS) (c₀ : Cel) (E : DEnds) (Γ : Gam) : wIfS t a b E (c₀ :: Γ) = (t (c₀ :: Γ) fun c => if c = true then a E (c₀ :: Γ) else b E (c₀ :: Γ)) := propext ⟨id, id⟩
theorem r_wAsg (g : WG) (a : WE) (c₀ : Cel) (E : DEnds) (Γ : Gam) : wAsg g a E (c₀ :: Γ) = (a (c₀ :: Γ) fun d => g d (c₀ :: Γ) E.nx) := propext ⟨id, id⟩
theorem r_wOwnAsg (i : Nat) (a : WE) (c₀ : Cel) (E : DEnds) (Γ : Gam) : wOwnAsg i a E (c₀ :: Γ) = (a (c₀ :: Γ) fun d => ∀ p, E.nx ((c₀ :: Γ).set i (celOf p d))) := propext ⟨id, id⟩
theorem r_wFrz (i : Nat) (s : WS) (c₀ : Cel) (E : DEnds) (Γ : Gam) : wFrz i s E (c₀ :: Γ) = (s E ((c₀ :: Γ).set i (frz ((c₀ :: Γ)[i]?.getD .no)))) := propext ⟨id, id⟩
theorem r_wAppend (i : Nat) (a : WE) (c₀ : Cel) (E : DEnds) (Γ : Gam) : wAppend i a E (c₀ :: Γ) = (cellOw (c₀ :: Γ)[i]? fun p x => kLst x fun xs => a (c₀ :: Γ) fun d => xs.length < SZ ∧ E.nx ((c₀ :: Γ).set i (.ow p (.lst (xs ++ [d]))))) := propext ⟨id, id⟩
theorem r_wInsert (i : Nat) (a b : WE) (c₀ : Cel) (E : DEnds) (Γ : Gam) : wInsert i a b E (c₀ :: Γ) = (cellOw (c₀ :: Γ)[i]? fun p x => kLst x fun xs => a (c₀ :: Γ) fun q => b (c₀ :: Γ) fun d => kInt q fun j => (xs.length < SZ ∧ 0 ≤ j ∧ j < 2 ^ 63) ∧ E.nx ((c₀ :: Γ).set i (.ow p (.lst (xs.take j.toNat ++ [d] ++ xs.drop j.toNat))))) := propext ⟨id, id⟩
theorem r_wExtend (i : Nat) (a : WE) (c₀ : Cel) (E : DEnds) (Γ : Gam) : wExtend i a E (c₀ :: Γ) = (cellOw (c₀ :: Γ)[i]? fun p x => kLst x fun xs => a (c₀ :: Γ) fun d => kLst d fun ys => xs.length + ys.length ≤ SZ ∧ E.nx ((c₀ :: Γ).set i (.ow p (.lst (xs ++ ys))))) := propext ⟨id, id⟩
theorem r_wPopT (i : Nat) (a : WE) (c₀ : Cel) (E : DEnds) (Γ : Gam) : wPopT i a E (c₀ :: Γ) = (cellOw (c₀ :: Γ)[i]? fun p x => kDit x fun kvs => a (c₀ :: Γ) fun q => (q.nkey = true ∧ (look kvs q).isSome) ∧ E.nx ((c₀ :: Γ).set i (.ow p (.dit (drop kvs q))))) := propext ⟨id, id⟩
theorem r_wClearT (i : Nat) (c₀ : Cel) (E : DEnds) (Γ : Gam) : wClearT i E (c₀ :: Γ) = (cellOw (c₀ :: Γ)[i]? fun p x => kDit x fun _ => E.nx ((c₀ :: Γ).set i (.ow p (.dit [])))) := propext ⟨id, id⟩
theorem r_wClear (i : Nat) (c₀ : Cel) (E : DEnds) (Γ : Gam) : wClear i E (c₀ :: Γ) = (cellOw (c₀ :: Γ)[i]? fun p x => kLst x fun _ => E.nx ((c₀ :: Γ).set i (.ow p (.lst [])))) := propext ⟨id, id⟩
theorem r_wPopTo (j i : Nat) (c₀ : Cel) (E : DEnds) (Γ : Gam) : wPopTo j i E (c₀ :: Γ) = (cellOw (c₀ :: Γ)[i]? fun p x => kLst x fun xs => ∃ v, xs[xs.length - 1]? = some v ∧ E.nx (((c₀ :: Γ).set i (.ow p (.lst xs.dropLast))).set j (.sh v))) := propext ⟨id, id⟩
theorem r_wSetIx (i : Nat) (a b : WE) (c₀ : Cel) (E : DEnds) (Γ : Gam) : wSetIx i a b E (c₀ :: Γ) = (b (c₀ :: Γ) fun d => cellOw (c₀ :: Γ)[i]? fun p x => a (c₀ :: Γ) fun q => setIx (c₀ :: Γ) i p x q d E.nx) := propext ⟨id, id⟩
theorem r_wFor (i : WI) (g : WG) (b : WS) (c₀ : Cel) (E : DEnds) (Γ : Gam) : wFor i g b E (c₀ :: Γ) = (i (c₀ :: Γ) fun ds => forD g b E (fun _ => True) ds (c₀ :: Γ)) := propext ⟨id, id⟩
theorem r_wForOw (j : Nat) (i : WI) (g : WG) (b : WS) (c₀ : Cel) (E : DEnds) (Γ : Gam) : wForOw j i g b E (c₀ :: Γ) = (i (c₀ :: Γ) fun ds => forD g b E (fun Γ' => Γ'[j]? = (c₀ :: Γ)[j]?) ds (c₀ :: Γ)) := propext ⟨id, id⟩
theorem r_wSortK (S : Spec) (a : WE) (c₀ : Cel) (Γ : Gam) (k : D → Prop) : wSortK S a (c₀ :: Γ) k = (a (c₀ :: Γ) fun x => itemsK x fun xs => ∃ key : D → KK, (∀ y ∈ xs, S.pre [y] ∧ (∀ d, S.post [y] d → d = kkD (key y)) ∧ okK (key y)) ∧ ∀ ys, ys.Perm xs → ys.Pairwise (fun p q => kLt (key q) (key p) = false) → k (.lst ys)) := propext ⟨id, id⟩
theorem r_wipe (c₀ : Cel) (Γ : Gam) : wipeD (c₀ :: Γ) [] = c₀ :: Γ := rfl
theorem r_wipe2 (c₀ : Cel) (Γ : Gam) (v : Nat) (vs : List Nat) : wipeD (c₀ :: Γ) (v :: vs) = (wipeD (c₀ :: Γ) vs).set v .no := rfl
theorem r_fLen (x₁ : D) (k₁ : D → Prop) : fLen [x₁] k₁ = (fun x k => match x with
  | .str s => s.length ≤ SZ ∧ k (.int s.length)
  | .lst s => k (.int s.length)
  | .tup s => k (.int s.length)
  | .dic s => k (.int s.length)
  | .dit s => k (.int s.length)
  | .scr s => k (.int s.length)
  | _ => False) x₁ k₁ := propext ⟨id, id⟩
theorem r_fAbs (x₁ : D) (k₁ : D → Prop) : fAbs [x₁] k₁ = (fun x k => kInt x fun i => k (.int (if i < 0 then -i else i))) x₁ k₁ := propext ⟨id, id⟩
theorem r_fMin2 (x₁ x₂ : D) (k₁ : D → Prop) : fMin2 [x₁, x₂] k₁ = (fun x y k => kInt x fun i => kInt y fun j => k (.int (if j < i then j else i))) x₁ x₂ k₁ := propext ⟨id, id⟩
theorem r_fMax2 (x₁ x₂ : D) (k₁ : D → Prop) : fMax2 [x₁, x₂] k₁ = (fun x y k => kInt x fun i => kInt y fun j => k (.int (if j > i then j else i))) x₁ x₂ k₁ := propext ⟨id, id⟩
theorem r_fInt (x₁ : D) (k₁ : D → Prop) : fInt [x₁] k₁ = (fun x k => match x with
  | .int i => k (.int i)
  | .bl b => k (.int (if b = true then 1 else 0))
  | _ => False) x₁ k₁ := propext ⟨id, id⟩
theorem r_fStr (x₁ : D) (k₁ : D → Prop) : fStr [x₁] k₁ = (fun x k => match x with
  | .int i => i.natAbs.log2 < 1920 ∧ k (.str (digs i))
  | .str s => k (.str s)
  | _ => False) x₁ k₁ := propext ⟨id, id⟩
theorem r_fList (x₁ : D) (k₁ : D → Prop) : fList [x₁] k₁ = (fun x k => match x with
  | .lst s => k (.lst s)
  | .tup s => k (.lst s)
  | .dic s => s.length ≤ SZ ∧ k (.lst (s.map (·.1)))
  | _ => False) x₁ k₁ := propext ⟨id, id⟩
theorem r_fTuple (x₁ : D) (k₁ : D → Prop) : fTuple [x₁] k₁ = (fun x k => match x with
  | .lst s => k (.tup s)
  | .tup s => k (.tup s)
  | _ => False) x₁ k₁ := propext ⟨id, id⟩
theorem r_fDict (x₁ : D) (k₁ : D → Prop) : fDict [x₁] k₁ = (fun x k => kDic x fun s => k (.dic s)) x₁ k₁ := propext ⟨id, id⟩
theorem r_fAll (x₁ : D) (k₁ : D → Prop) : fAll [x₁] k₁ = (fun x k => kLst x fun s => ∃ bs, bools s = some bs ∧ k (.bl (bs.all id))) x₁ k₁ := propext ⟨id, id⟩
theorem r_fAny (x₁ : D) (k₁ : D → Prop) : fAny [x₁] k₁ = (fun x k => kLst x fun s => ∃ bs, bools s = some bs ∧ k (.bl (bs.any id))
) x₁ k₁ := propext ⟨id, id⟩
theorem r_mCount (s₁ t₁ : List Nat) (k₁ : D → Prop) : mCount s₁ [.str t₁] k₁ = (fun s t k => ∃ c, t = [c] ∧ k (.int (s.count c))) s₁ t₁ k₁ := propext ⟨id, id⟩
theorem r_mRfind (s₁ t₁ : List Nat) (k₁ : D → Prop) : mRfind s₁ [.str t₁] k₁ = (fun s t k => ∃ c, t = [c] ∧ k (.int (rfindC c s))) s₁ t₁ k₁ := propext ⟨id, id⟩
theorem r_mFind (s₁ t₁ : List Nat) (k₁ : D → Prop) : mFind s₁ [.str t₁] k₁ = (fun s t k => ∃ c, t = [c] ∧ k (.int (findC c s))) s₁ t₁ k₁ := propext ⟨id, id⟩
theorem r_mStarts (s₁ t₁ : List Nat) (k₁ : D → Prop) : mStarts s₁ [.str t₁] k₁ = (fun s t k => k (.bl (t.isPrefixOf s))) s₁ t₁ k₁ := propext ⟨id, id⟩
theorem r_mEnds (s₁ t₁ : List Nat) (k₁ : D → Prop) : mEnds s₁ [.str t₁] k₁ = (fun s t k => k (.bl (t.isSuffixOf s))) s₁ t₁ k₁ := propext ⟨id, id⟩
theorem r_mSplit (s₁ t₁ : List Nat) (k₁ : D → Prop) : mSplit s₁ [.str t₁] k₁ = (fun s t k => ∃ c, t = [c] ∧ (c < 256 ∧ s.length + 2 ≤ SZ) ∧ k (.lst ((splitC c s).map .str))) s₁ t₁ k₁ := propext ⟨id, id⟩
theorem r_mJoin (s₁ : List Nat) (x₁ : D) (k₁ : D → Prop) : mJoin s₁ [x₁] k₁ = (fun s xs k => match xs with
  | [.lst ys] => ∃ ws, strsD ys = some ws ∧ (ws.map (·.length)).sum + ws.length * s.length ≤ SZ ∧ k (.str (joinD s ws))
  | [.tup ys] => ∃ ws, strsD ys = some ws ∧ (ws.map (·.length)).sum + ws.length * s.length ≤ SZ ∧ k (.str (joinD s ws))
  | _ => False) s₁ [x₁] k₁ := propext ⟨id, id⟩
theorem r_mIsupper (s₁ : List Nat) (k₁ : D → Prop) : mIsupper s₁ k₁ = (fun s k => asc s = true ∧ k (.bl (s.any upC && s.all fun c => !loC c))) s₁ k₁ := propext ⟨id, id⟩
theorem r_mIsalnum (s₁ : List Nat) (k₁ : D → Prop) : mIsalnum s₁ k₁ = (fun s k => asc s = true ∧ k (.bl (!s.isEmpty && s.all fun c => upC c || loC c || diC c))) s₁ k₁ := propext ⟨id, id⟩
theorem r_mIsalpha (s₁ : List Nat) (k₁ : D → Prop) : mIsalpha s₁ k₁ = (fun s k => asc s = true ∧ k (.bl (!s.isEmpty && s.all fun c => upC c || loC c))) s₁ k₁ := propext ⟨id, id⟩
theorem r_mIsdigit (s₁ : List Nat) (k₁ : D → Prop) : mIsdigit s₁ k₁ = (fun s k => asc s = true ∧ k (.bl (!s.isEmpty && s.all diC))) s₁ k₁ := propext ⟨id, id⟩
theorem r_mLower (s₁ : List Nat) (k₁ : D → Prop) : mLower s₁ k₁ = (fun s k => (asc s = true ∧ s.length ≤ 5592405) ∧ k (.str (s.map lowC))
) s₁ k₁ := propext ⟨id, id⟩
theorem atD0 {α : Type} {x : α} {xs : List α} : atD (x :: xs) 0 = some x := by
  unfold atD ixN
  rw [if_pos (Int.le_refl _), if_pos (by rw [List.length_cons]; omega)]
  rfl
theorem atD1 {α : Type} {x y : α} {xs : List α} : atD (x :: y :: xs) 1 = some y := by
  unfold atD ixN
  rw [if_pos (by decide), if_pos (by rw [List.length_cons, List.length_cons]; omega)]
  rfl
theorem atD2 {α : Type} {x y z : α} {xs : List α} : atD (x :: y :: z :: xs) 2 = some z := by
  unfold atD ixN
  rw [if_pos (by decide), if_pos (by rw [List.length_cons, List.length_cons, List.length_cons]; omega)]
  rfl
theorem strsD_map : ∀ {ws : List (List Nat)}, strsD (ws.map .str) = some ws
  | [] => rfl
  | w :: ws => by
    show (strsD (ws.map .str)).map (w :: ·) = _
    rw [strsD_map]; rfl
theorem flat_one (c : Nat) : ∀ n, (List.replicate n [c]).flatten = List.replicate n c
  | 0 => rfl
  | n + 1 => by rw [List.replicate_succ, List.flatten_cons, flat_one c n]; rfl

theorem all_int {P : D → Int → Prop} : (∀ d x, d = D.int x → P d x) ↔ ∀ x, P (.int x) x := ⟨fun h x => h _ x rfl, fun h d x e => e ▸ h x⟩
theorem all_str {P : D → List Nat → Prop} : (∀ d x, d = D.str x → P d x) ↔ ∀ x, P (.str x) x := ⟨fun h x => h _ x rfl, fun h d x e => e ▸ h x⟩
theorem all_chr {P : D → Nat → Prop} : (∀ d x, d = D.str [x] → P d x) ↔ ∀ x, P (.str [x]) x := ⟨fun h x => h _ x rfl, fun h d x e => e ▸ h x⟩
theorem all_bl {P : D → Bool → Prop} : (∀ d x, d = D.bl x → P d x) ↔ ∀ x, P (.bl x) x := ⟨fun h x => h _ x rfl, fun h d x e => e ▸ h x⟩
theorem all_words {P : D → List (List Nat) → Prop} : (∀ d x, d = D.lst (x.map .str) → P d x) ↔ ∀ x, P (.lst (x.map .str)) x := ⟨fun h x => h _ x rfl, fun h d x e => e ▸ h x⟩

end DL

/-! DPlain: plain lemmas for every law; the pool, a pick and the comparison of two trees, each with its condition. -/
namespace DL
theorem kDic_is {z : D} {f : List (D × D) → Prop} (h : kDic z f) : ∃ kvs, z = .dic kvs := by
  cases z <;> first | exact ⟨_, rfl⟩ | exact h.elim
theorem kStr_is {z : D} {f : List Nat → Prop} (h : kStr z f) : ∃ s, z = .str s := by
  cases z <;> first | exact ⟨_, rfl⟩ | exact h.elim
theorem kInt_is {z : D} {f : Int → Prop} (h : kInt z f) : ∃ s, z = .int s := by
  cases z <;> first | exact ⟨_, rfl⟩ | exact h.elim
theorem kBl_is {z : D} {f : Bool → Prop} (h : kBl z f) : ∃ s, z = .bl s := by
  cases z <;> first | exact ⟨_, rfl⟩ | exact h.elim
theorem kLst_is {z : D} {f : List D → Prop} (h : kLst z f) : ∃ s, z = .lst s := by
  cases z <;> first | exact ⟨_, rfl⟩ | exact h.elim
theorem kTup_is {z : D} {f : List D → Prop} (h : kTup z f) : ∃ s, z = .tup s := by
  cases z <;> first | exact ⟨_, rfl⟩ | exact h.elim
def un (ds : List D) (f : D → Prop) : Prop := match ds with
  | [x] => f x
  | _ => False
def bin (ds : List D) (f : D → D → Prop) : Prop := match ds with
  | [x, y] => f x y
  | _ => False
def tri (ds : List D) (f : D → D → D → Prop) : Prop := match ds with
  | [x, y, z] => f x y z
  | _ => False
def isTok : D → Prop
  | .tok => True
  | _ => False
theorem tok_is {z : D} (h : isTok z) : z = .tok := by
  cases z <;> first | rfl | exact h.elim
theorem asc_cut {s : List Nat} {a b : Option Int} (h : asc s = true) : asc (cutD s a b) = true := by
  unfold asc at *
  rw [List.all_eq_true] at *
  intro x hx
  exact h x (List.mem_of_mem_drop (List.mem_of_mem_take hx))
theorem mem_cut {α : Type} {s : List α} {a b : Option Int} {x : α} (h : x ∈ cutD s a b) : x ∈ s := List.mem_of_mem_drop (List.mem_of_mem_take h)
theorem len_cut {α : Type} {s : List α} {a b : Option Int} : (cutD s a b).length ≤ s.length := by
  unfold cutD
  rw [List.length_take, List.length_drop]
  omega
theorem atD_lt {α : Type} {xs : List α} {k : Int} (h0 : 0 ≤ k) (h : k < xs.length) : ∃ v, atD xs k = some v ∧ v ∈ xs := by
  have hk : k.toNat < xs.length := by omega
  refine ⟨xs[k.toNat], ?_, List.getElem_mem ..⟩
  unfold atD ixN
  rw [if_pos h0, if_pos h]
  exact List.getElem?_eq_getElem hk
theorem atD_nat {α : Type} {xs : List α} {k : Int} (h0 : 0 ≤ k) (h : k < xs.length) : atD xs k = xs[k.toNat]? := by
  unfold atD ixN
  rw [if_pos h0, if_pos h]
  rfl
theorem atD_neg1 {α : Type} {xs : List α} {x : α} : atD (xs ++ [x]) (-1) = some x := by
  unfold atD ixN
  rw [if_neg (by decide), if_pos (by rw [List.length_append]; show -((xs.length + 1 : Nat) : Int) ≤ -1; omega)]
  show (xs ++ [x])[((-1 : Int) + ((xs ++ [x]).length : Nat)).toNat]? = _
  rw [List.length_append, show ((-1 : Int) + ((xs.length + [x].length : Nat) : Int)).toNat = xs.length by show ((-1 : Int) + ((xs.length + 1 : Nat) : Int)).toNat = _; omega]
  simp
theorem ixN_lt {n : Nat} {k : Int} (h0 : 0 ≤ k) (h : k < n) : ixN n k = some k.toNat := by
  unfold ixN
  rw [if_pos h0, if_pos h]
theorem ite2 {c : Prop} [Decidable c] {A B : Prop} (a : c → A) (b : ¬c → B) : if c then A else B := by
  by_cases h : c
  · rw [if_pos h]; exact a h
  · rw [if_neg h]; exact b h
theorem cut_take {α : Type} {xs : List α} {a : Int} (h : 0 ≤ a) : cutD xs none (some a) = xs.take a.toNat := by
  unfold cutD ixB
  simp only [List.drop_zero, Nat.sub_zero]
  rw [if_neg (by omega)]
  by_cases c : a.toNat ≤ xs.length
  · rw [Nat.min_eq_left c]
  · rw [Nat.min_eq_right (by omega), List.take_length, List.take_of_length_le (by omega)]
theorem cut_drop {α : Type} {xs : List α} {a : Int} (h : 0 ≤ a) : cutD xs (some a) none = xs.drop a.toNat := by
  unfold cutD ixB
  simp only []
  rw [if_neg (by omega)]
  by_cases c : a.toNat ≤ xs.length
  · rw [Nat.min_eq_left c, List.take_of_length_le (by rw [List.length_drop]; omega)]
  · rw [Nat.min_eq_right (by omega), List.drop_of_length_le (by omega), List.drop_of_length_le (by omega)]
    exact List.take_nil
theorem cut_init {α : Type} {s : List α} (h : 1 ≤ s.length) : cutD s none (some (-1)) = s.dropLast := by
  unfold cutD ixB
  simp only [List.drop_zero, Nat.sub_zero]
  rw [if_pos (by decide), List.dropLast_eq_take]
  congr 1
  omega
theorem cut_mid {α : Type} {xs : List α} {a b : Nat} (hab : a ≤ b) (hb : b ≤ xs.length) : cutD xs (some (a : Int)) (some (b : Int)) = (xs.drop a).take (b - a) := by
  unfold cutD ixB
  simp only []
  rw [if_neg (by omega), if_neg (by omega), show min (a : Int).toNat xs.length = a by omega, show min (b : Int).toNat xs.length = b by omega]
theorem cut_inner {α : Type} {xs : List α} {a : Nat} (h : 1 ≤ xs.length) : cutD xs (some (a : Int)) (some (-1)) = (xs.drop a).dropLast := by
  unfold cutD ixB
  simp only []
  rw [if_neg (show ¬ (a : Int) < 0 by omega), if_pos (show (-1 : Int) < 0 by decide), List.dropLast_eq_take, List.length_drop]
  by_cases c : a ≤ xs.length
  · rw [show min (a : Int).toNat xs.length = a by omega]
    congr 1
    omega
  · rw [show min (a : Int).toNat xs.length = xs.length by omega, List.drop_of_length_le (Nat.le_refl _), List.drop_of_length_le (by omega), List.take_nil, List.take_nil]
theorem cut_one {c : Nat} {r : List Nat} : cutD (c :: r) none (some 1) = [c] := by
  rw [cut_take (by decide)]
  rfl
theorem lt_one {a b : Nat} : ([a] < [b]) ↔ a < b := by
  constructor
  · intro h
    cases h with
    | rel h => exact h
    | cons h => exact absurd h (List.not_lt_nil _)
  · exact fun h => List.Lex.rel h
theorem draw_pre {m : Int} : S_draw.pre [.tok, .int m] ↔ (0 < m ∧ m < 1073741824) := by
  constructor
  · rintro ⟨m', e, h⟩; cases e; exact h
  · intro h; exact ⟨m, rfl, h⟩
theorem draw_post {m : Int} {d : D} : S_draw.post [.tok, .int m] d ↔ ∃ r, d = .int r ∧ 0 ≤ r ∧ r < m := by
  constructor
  · rintro ⟨m', r, e, h, h'⟩; cases e; exact ⟨r, h, h'⟩
  · rintro ⟨r, h, h'⟩; exact ⟨m, r, rfl, h, h'⟩
theorem pool_pre {ns : List Int} {i : Int} (h : ns.length ≤ 63) (h0 : 0 ≤ i) (h1 : i < 1000000) : S_pool.pre [.scr (ns.map .int), .int i] := ⟨ns, i, rfl, h, h0, h1⟩
theorem pool_post {x y d : D} : S_pool.post [x, y] d ↔ d = .tok := Iff.rfl
def b_pool : WS := (wSeq (wAsg (gNm 2) (wOp oAdd (wC (.int 7)) (wOp oMul (wView 1) (wC (.int 1009)))))
  (wSeq (wFor (wRange1 (wFn fMin2 (wCons (wFn fLen (wCons (wView 0) wNil)) (wCons (wC (.int 63)) wNil)))) (gNm 3)
  (wAsg (gNm 2) (wOp oMod (wFn fInt (wCons (wOp oAdd (wOp oAdd (wOp oAdd (wOp oMul (wView 2) (wC (.int 48271))) (wOp oMod (wFn fInt (wCons (wFn fAbs (wCons (wFn fInt (wCons (wOp oIx (wView 0) (wView 3)) wNil)) wNil)) wNil)) (wC (.int 2147483629)))) (wOp oMul (wView 3) (wC (.int 69621)))) (wC (.int 11))) wNil)) (wC (.int 2147483647)))))
  (wSeq (wAsg (gNm 4) (wIf (wTest (wOp oLt (wView 1) (wFn fLen (wCons (wView 0) wNil)))) (wOp oAdd (wOp oMul (wC (.int 2)) (wFn fAbs (wCons (wFn fInt (wCons (wOp oIx (wView 0) (wView 1)) wNil)) wNil))) (wFn fInt (wCons (wOp oLt (wFn fInt (wCons (wOp oIx (wView 0) (wView 1)) wNil)) (wC (.int 0))) wNil))) (wC (.int 0))))
  (wRet (wLst (wCons (wIf (wTest (wOp oGe (wView 4) (wOp oPow (wC (.int 10)) (wC (.int 18))))) (wVar 4) (wC (.int 0))) (wCons (wVar 2) (wCons (wC (.int 0)) wNil))))))))
theorem vc_pool : ∀ ds : List D, ds.length = 2 → S_pool0.pre ds → b_pool { nx := fun _ => S_pool0.post ds .non, rt := S_pool0.post ds } (startD [false, false] ds 3) := by
  rintro ds hl ⟨ns, i, rfl, hn, i0, i1⟩
  have post : ∀ x y : Int, 0 ≤ x → 0 ≤ y → y < 2 ^ 32 → S_pool0.post [.scr (ns.map .int), .int i] (.lst [.int x, .int y, .int 0]) := fun x y a b c => ⟨x, y, rfl, a, b, c⟩
  generalize S_pool0.post [.scr (ns.map .int), .int i] = Q at post
  have hlen : (ns.map D.int).length = ns.length := List.length_map ..
  have get : ∀ k : Int, 0 ≤ k → k < ns.length → ∃ v, atD (ns.map D.int) k = some (.int v) := fun k h0 h1 => by
    obtain ⟨v, e, h⟩ := atD_lt (xs := ns.map D.int) h0 (by rw [hlen]; exact h1)
    obtain ⟨z, _, rfl⟩ := List.mem_map.mp h
    exact ⟨z, e⟩
  simp only [b_pool, hlen, SmallF, r_wVar, r_wView, r_wOwn, r_wC, r_wFlat, r_wNewD, r_wNewT, r_wOp, r_wNeg, r_wIsN, r_wNotN, r_wIsB, r_wTest, r_wAnd, r_wOr, r_wNot, r_wAndV, r_wOrV, r_wNotV, r_wIf, r_wChain, r_wNil, r_wCons, r_wTup, r_wLst, r_wCall, r_wFn, r_wIsI, r_woN, r_woS, r_wSlice, r_wMt, r_wMt0, r_wRange1, r_wRange2, r_wItems, r_wBoIt, r_wOwIt, r_wKeys, r_gNm, r_gsNil, r_gsCons, r_gTp, r_wYes, r_wComp, r_wDComp, r_wDCompT, r_wNext, r_wSeq, r_wBreak, r_wCont, r_wExpr, r_wRet, r_wRetN, r_wIfS, r_wAsg, r_wOwnAsg, r_wFrz, r_wAppend, r_wInsert, r_wExtend, r_wClear, r_wClearT, r_wPopT, r_wPopTo, r_wSetIx, r_wFor, r_wForOw, r_fLen, r_fAbs, r_fMin2, r_fMax2, r_fInt, r_fStr, r_fList, r_fTuple, r_fDict, r_fAll, r_fAny, r_mCount, r_mRfind, r_mFind, r_mStarts, r_mEnds, r_mSplit, r_mJoin, r_mIsupper, r_mIsalnum, r_mIsalpha, r_mIsdigit, r_mLower, r_wipe, r_wipe2, oAdd, oSub, oMul, oMod, oFdiv, oPow, oEq, oNe, oLt, oLe, oGt, oGe, oIn, oNin, oIx, inD, frz, setIx, dicIt, boIt, owIt, startD, cellVw, cellSh, cellOw, kInt, kStr, kBl, kLst, kDic, kTup, plain2, scal2, D.scal, D.flat, D.isNon, D.isBl, D.isTy, D.dat, D.key, celOf, List.replicate, List.getElem?_cons_zero, List.getElem?_cons_succ, List.set_cons_zero, List.set_cons_succ, Option.getD_some, forall_exists_index, and_imp, forall_eq, forall_eq_apply_imp_iff, forall_apply_eq_imp_iff, if_true, if_false, Bool.not_true, Bool.not_false, Bool.not_eq_true', Bool.true_and, Bool.and_true, Bool.false_and, Bool.and_false, Bool.false_eq_true, Bool.true_eq_false, ite_true, ite_false, reduceIte, true_and, and_true, false_or, or_false, true_or, or_true, atD0, atD1, atD2, Option.some.injEq, List.length_map, all_int, all_str, all_chr, all_bl, all_words, beq_iff_eq, Int.reduceLT, Int.reduceLE, Int.reduceEq, Int.reduceNeg, Int.reduceBEq, Int.reduceToNat, Int.reducePow, Nat.reduceAdd, Nat.reduceLT, Nat.reduceLeDiff, Bool.not_eq_eq_eq_not, decide_eq_true_eq, List.length_cons, List.length_nil, un, bin, tri, isTok, SZ, D.dic.injEq, D.dit.injEq, D.str.injEq, D.int.injEq, D.lst.injEq, D.bl.injEq, eqv_str, eqv_int, eqv_bl, eqv_is, eqv_si, eqv_sn, eqv_in, beq_self_eq_true, List.cons.injEq, exists_eq_left', forall_eq', exists_eq', exists_eq_left, exists_eq_right, Bool.and_self, Bool.or_self, Bool.or_true, Bool.or_false]
  refine ⟨⟨by split <;> omega, by split <;> omega⟩, ?_⟩
  refine forD_ind (fun ds Γ => (∀ d ∈ ds, ∃ k : Nat, d = .int k ∧ k < 63 ∧ k < ns.length) ∧ ∃ seed c3, 0 ≤ seed ∧ seed < 2147483647 ∧ Γ = [.bo (.scr (ns.map D.int)), .bo (.int i), .sh (.int seed), c3, .no]) ?_ ?_ _ _ ?_
  · rintro Γ ⟨_, seed, c3, s0, s1, rfl⟩
    simp only [hlen, SmallF, r_wVar, r_wView, r_wOwn, r_wC, r_wFlat, r_wNewD, r_wNewT, r_wOp, r_wNeg, r_wIsN, r_wNotN, r_wIsB, r_wTest, r_wAnd, r_wOr, r_wNot, r_wAndV, r_wOrV, r_wNotV, r_wIf, r_wChain, r_wNil, r_wCons, r_wTup, r_wLst, r_wCall, r_wFn, r_wIsI, r_woN, r_woS, r_wSlice, r_wMt, r_wMt0, r_wRange1, r_wRange2, r_wItems, r_wBoIt, r_wOwIt, r_wKeys, r_gNm, r_gsNil, r_gsCons, r_gTp, r_wYes, r_wComp, r_wDComp, r_wDCompT, r_wNext, r_wSeq, r_wBreak, r_wCont, r_wExpr, r_wRet, r_wRetN, r_wIfS, r_wAsg, r_wOwnAsg, r_wFrz, r_wAppend, r_wInsert, r_wExtend, r_wClear, r_wClearT, r_wPopT, r_wPopTo, r_wSetIx, r_wFor, r_wForOw, r_fLen, r_fAbs, r_fMin2, r_fMax2, r_fInt, r_fStr, r_fList, r_fTuple, r_fDict, r_fAll, r_fAny, r_mCount, r_mRfind, r_mFind, r_mStarts, r_mEnds, r_mSplit, r_mJoin, r_mIsupper, r_mIsalnum, r_mIsalpha, r_mIsdigit, r_mLower, r_wipe, r_wipe2, oAdd, oSub, oMul, oMod, oFdiv, oPow, oEq, oNe, oLt, oLe, oGt, oGe, oIn, oNin, oIx, inD, frz, setIx, dicIt, boIt, owIt, startD, cellVw, cellSh, cellOw, kInt, kStr, kBl, kLst, kDic, kTup, plain2, scal2, D.scal, D.flat, D.isNon, D.isBl, D.isTy, D.dat, D.key, celOf, List.replicate, List.getElem?_cons_zero, List.getElem?_cons_succ, List.set_cons_zero, List.set_cons_succ, Option.getD_some, forall_exists_index, and_imp, forall_eq, forall_eq_apply_imp_iff, forall_apply_eq_imp_iff, if_true, if_false, Bool.not_true, Bool.not_false, Bool.not_eq_true', Bool.true_and, Bool.and_true, Bool.false_and, Bool.and_false, Bool.false_eq_true, Bool.true_eq_false, ite_true, ite_false, reduceIte, true_and, and_true, false_or, or_false, true_or, or_true, atD0, atD1, atD2, Option.some.injEq, List.length_map, all_int, all_str, all_chr, all_bl, all_words, beq_iff_eq, Int.reduceLT, Int.reduceLE, Int.reduceEq, Int.reduceNeg, Int.reduceBEq, Int.reduceToNat, Int.reducePow, Nat.reduceAdd, Nat.reduceLT, Nat.reduceLeDiff, Bool.not_eq_eq_eq_not, decide_eq_true_eq, List.length_cons, List.length_nil, un, bin, tri, isTok, SZ, D.dic.injEq, D.dit.injEq, D.str.injEq, D.int.injEq, D.lst.injEq, D.bl.injEq, eqv_str, eqv_int, eqv_bl, eqv_is, eqv_si, eqv_sn, eqv_in, beq_self_eq_true, List.cons.injEq, exists_eq_left', forall_eq', exists_eq', exists_eq_left, exists_eq_right, Bool.and_self, Bool.or_self, Bool.or_true, Bool.or_false]
    by_cases c : i < (ns.length : Int)
    · obtain ⟨v, hv⟩ := get i i0 c
      simp only [c, hv, decide_true, Option.some.injEq, r_wVar, r_wView, r_wOwn, r_wC, r_wFlat, r_wNewD, r_wNewT, r_wOp, r_wNeg, r_wIsN, r_wNotN, r_wIsB, r_wTest, r_wAnd, r_wOr, r_wNot, r_wAndV, r_wOrV, r_wNotV, r_wIf, r_wChain, r_wNil, r_wCons, r_wTup, r_wLst, r_wCall, r_wFn, r_wIsI, r_woN, r_woS, r_wSlice, r_wMt, r_wMt0, r_wRange1, r_wRange2, r_wItems, r_wBoIt, r_wOwIt, r_wKeys, r_gNm, r_gsNil, r_gsCons, r_gTp, r_wYes, r_wComp, r_wDComp, r_wDCompT, r_wNext, r_wSeq, r_wBreak, r_wCont, r_wExpr, r_wRet, r_wRetN, r_wIfS, r_wAsg, r_wOwnAsg, r_wFrz, r_wAppend, r_wInsert, r_wExtend, r_wClear, r_wClearT, r_wPopT, r_wPopTo, r_wSetIx, r_wFor, r_wForOw, r_fLen, r_fAbs, r_fMin2, r_fMax2, r_fInt, r_fStr, r_fList, r_fTuple, r_fDict, r_fAll, r_fAny, r_mCount, r_mRfind, r_mFind, r_mStarts, r_mEnds, r_mSplit, r_mJoin, r_mIsupper, r_mIsalnum, r_mIsalpha, r_mIsdigit, r_mLower, r_wipe, r_wipe2, oAdd, oSub, oMul, oMod, oFdiv, oPow, oEq, oNe, oLt, oLe, oGt, oGe, oIn, oNin, oIx, inD, frz, setIx, dicIt, boIt, owIt, startD, cellVw, cellSh, cellOw, kInt, kStr, kBl, kLst, kDic, kTup, plain2, scal2, D.scal, D.flat, D.isNon, D.isBl, D.isTy, D.dat, D.key, celOf, List.replicate, List.getElem?_cons_zero, List.getElem?_cons_succ, List.set_cons_zero, List.set_cons_succ, Option.getD_some, forall_exists_index, and_imp, forall_eq, forall_eq_apply_imp_iff, forall_apply_eq_imp_iff, if_true, if_false, Bool.not_true, Bool.not_false, Bool.not_eq_true', Bool.true_and, Bool.and_true, Bool.false_and, Bool.and_false, Bool.false_eq_true, Bool.true_eq_false, ite_true, ite_false, reduceIte, true_and, and_true, false_or, or_false, true_or, or_true, atD0, atD1, atD2, Option.some.injEq, List.length_map, all_int, all_str, all_chr, all_bl, all_words, beq_iff_eq, Int.reduceLT, Int.reduceLE, Int.reduceEq, Int.reduceNeg, Int.reduceBEq, Int.reduceToNat, Int.reducePow, Nat.reduceAdd, Nat.reduceLT, Nat.reduceLeDiff, Bool.not_eq_eq_eq_not, decide_eq_true_eq, List.length_cons, List.length_nil, un, bin, tri, isTok, SZ, D.dic.injEq, D.dit.injEq, D.str.injEq, D.int.injEq, D.lst.injEq, D.bl.injEq, eqv_str, eqv_int, eqv_bl, eqv_is, eqv_si, eqv_sn, eqv_in, beq_self_eq_true, List.cons.injEq, exists_eq_left', forall_eq', exists_eq', exists_eq_left, exists_eq_right, Bool.and_self, Bool.or_self, Bool.or_true, Bool.or_false]
      have big : 0 ≤ ((2 * if v < 0 then -v else v) + if v < 0 then (1 : Int) else 0) := by split <;> omega
      exact ⟨by decide, ite2 (fun _ => post _ _ big s0 (by omega)) fun _ => post _ _ (Int.le_refl _) s0 (by omega)⟩
    · simp only [c, decide_false, r_wVar, r_wView, r_wOwn, r_wC, r_wFlat, r_wNewD, r_wNewT, r_wOp, r_wNeg, r_wIsN, r_wNotN, r_wIsB, r_wTest, r_wAnd, r_wOr, r_wNot, r_wAndV, r_wOrV, r_wNotV, r_wIf, r_wChain, r_wNil, r_wCons, r_wTup, r_wLst, r_wCall, r_wFn, r_wIsI, r_woN, r_woS, r_wSlice, r_wMt, r_wMt0, r_wRange1, r_wRange2, r_wItems, r_wBoIt, r_wOwIt, r_wKeys, r_gNm, r_gsNil, r_gsCons, r_gTp, r_wYes, r_wComp, r_wDComp, r_wDCompT, r_wNext, r_wSeq, r_wBreak, r_wCont, r_wExpr, r_wRet, r_wRetN, r_wIfS, r_wAsg, r_wOwnAsg, r_wFrz, r_wAppend, r_wInsert, r_wExtend, r_wClear, r_wClearT, r_wPopT, r_wPopTo, r_wSetIx, r_wFor, r_wForOw, r_fLen, r_fAbs, r_fMin2, r_fMax2, r_fInt, r_fStr, r_fList, r_fTuple, r_fDict, r_fAll, r_fAny, r_mCount, r_mRfind, r_mFind, r_mStarts, r_mEnds, r_mSplit, r_mJoin, r_mIsupper, r_mIsalnum, r_mIsalpha, r_mIsdigit, r_mLower, r_wipe, r_wipe2, oAdd, oSub, oMul, oMod, oFdiv, oPow, oEq, oNe, oLt, oLe, oGt, oGe, oIn, oNin, oIx, inD, frz, setIx, dicIt, boIt, owIt, startD, cellVw, cellSh, cellOw, kInt, kStr, kBl, kLst, kDic, kTup, plain2, scal2, D.scal, D.flat, D.isNon, D.isBl, D.isTy, D.dat, D.key, celOf, List.replicate, List.getElem?_cons_zero, List.getElem?_cons_succ, List.set_cons_zero, List.set_cons_succ, Option.getD_some, forall_exists_index, and_imp, forall_eq, forall_eq_apply_imp_iff, forall_apply_eq_imp_iff, if_true, if_false, Bool.not_true, Bool.not_false, Bool.not_eq_true', Bool.true_and, Bool.and_true, Bool.false_and, Bool.and_false, Bool.false_eq_true, Bool.true_eq_false, ite_true, ite_false, reduceIte, true_and, and_true, false_or, or_false, true_or, or_true, atD0, atD1, atD2, Option.some.injEq, List.length_map, all_int, all_str, all_chr, all_bl, all_words, beq_iff_eq, Int.reduceLT, Int.reduceLE, Int.reduceEq, Int.reduceNeg, Int.reduceBEq, Int.reduceToNat, Int.reducePow, Nat.reduceAdd, Nat.reduceLT, Nat.reduceLeDiff, Bool.not_eq_eq_eq_not, decide_eq_true_eq, List.length_cons, List.length_nil, un, bin, tri, isTok, SZ, D.dic.injEq, D.dit.injEq, D.str.injEq, D.int.injEq, D.lst.injEq, D.bl.injEq, eqv_str, eqv_int, eqv_bl, eqv_is, eqv_si, eqv_sn, eqv_in, beq_self_eq_true, List.cons.injEq, exists_eq_left', forall_eq', exists_eq', exists_eq_left, exists_eq_right, Bool.and_self, Bool.or_self, Bool.or_true, Bool.or_false]
      exact ⟨by decide, post _ _ (Int.le_refl _) s0 (by omega)⟩
  · rintro d ds Γ N ⟨hd, seed, c3, s0, s1, rfl⟩ hN
    obtain ⟨k, rfl, k0, k1⟩ := hd d (List.mem_cons_self ..)
    obtain ⟨v, hv⟩ := get k (by omega) (by omega)
    simp only [hv, SmallF, Option.some.injEq, r_wVar, r_wView, r_wOwn, r_wC, r_wFlat, r_wNewD, r_wNewT, r_wOp, r_wNeg, r_wIsN, r_wNotN, r_wIsB, r_wTest, r_wAnd, r_wOr, r_wNot, r_wAndV, r_wOrV, r_wNotV, r_wIf, r_wChain, r_wNil, r_wCons, r_wTup, r_wLst, r_wCall, r_wFn, r_wIsI, r_woN, r_woS, r_wSlice, r_wMt, r_wMt0, r_wRange1, r_wRange2, r_wItems, r_wBoIt, r_wOwIt, r_wKeys, r_gNm, r_gsNil, r_gsCons, r_gTp, r_wYes, r_wComp, r_wDComp, r_wDCompT, r_wNext, r_wSeq, r_wBreak, r_wCont, r_wExpr, r_wRet, r_wRetN, r_wIfS, r_wAsg, r_wOwnAsg, r_wFrz, r_wAppend, r_wInsert, r_wExtend, r_wClear, r_wClearT, r_wPopT, r_wPopTo, r_wSetIx, r_wFor, r_wForOw, r_fLen, r_fAbs, r_fMin2, r_fMax2, r_fInt, r_fStr, r_fList, r_fTuple, r_fDict, r_fAll, r_fAny, r_mCount, r_mRfind, r_mFind, r_mStarts, r_mEnds, r_mSplit, r_mJoin, r_mIsupper, r_mIsalnum, r_mIsalpha, r_mIsdigit, r_mLower, r_wipe, r_wipe2, oAdd, oSub, oMul, oMod, oFdiv, oPow, oEq, oNe, oLt, oLe, oGt, oGe, oIn, oNin, oIx, inD, frz, setIx, dicIt, boIt, owIt, startD, cellVw, cellSh, cellOw, kInt, kStr, kBl, kLst, kDic, kTup, plain2, scal2, D.scal, D.flat, D.isNon, D.isBl, D.isTy, D.dat, D.key, celOf, List.replicate, List.getElem?_cons_zero, List.getElem?_cons_succ, List.set_cons_zero, List.set_cons_succ, Option.getD_some, forall_exists_index, and_imp, forall_eq, forall_eq_apply_imp_iff, forall_apply_eq_imp_iff, if_true, if_false, Bool.not_true, Bool.not_false, Bool.not_eq_true', Bool.true_and, Bool.and_true, Bool.false_and, Bool.and_false, Bool.false_eq_true, Bool.true_eq_false, ite_true, ite_false, reduceIte, true_and, and_true, false_or, or_false, true_or, or_true, atD0, atD1, atD2, Option.some.injEq, List.length_map, all_int, all_str, all_chr, all_bl, all_words, beq_iff_eq, Int.reduceLT, Int.reduceLE, Int.reduceEq, Int.reduceNeg, Int.reduceBEq, Int.reduceToNat, Int.reducePow, Nat.reduceAdd, Nat.reduceLT, Nat.reduceLeDiff, Bool.not_eq_eq_eq_not, decide_eq_true_eq, List.length_cons, List.length_nil, un, bin, tri, isTok, SZ, D.dic.injEq, D.dit.injEq, D.str.injEq, D.int.injEq, D.lst.injEq, D.bl.injEq, eqv_str, eqv_int, eqv_bl, eqv_is, eqv_si, eqv_sn, eqv_in, beq_self_eq_true, List.cons.injEq, exists_eq_left', forall_eq', exists_eq', exists_eq_left, exists_eq_right, Bool.and_self, Bool.or_self, Bool.or_true, Bool.or_false]
    refine hN _ ⟨fun d h => hd d (List.mem_cons_of_mem _ h), _, _, Int.emod_nonneg _ (by decide), Int.emod_lt_of_pos _ (by decide), rfl⟩
  · refine ⟨fun d h => ?_, _, _, ?_, ?_, rfl⟩
    · obtain ⟨k, hk, rfl⟩ := List.mem_map.mp h
      rw [List.mem_range] at hk
      refine ⟨k, rfl, ?_⟩
      split at hk <;> omega
    · omega
    · omega
def p_S_pick  (ds : List D) : Prop := bin ds fun p x => isTok p ∧ match x with
    | .lst xs => xs ≠ [] ∧ xs.length ≤ 1000000
    | .tup xs => xs ≠ [] ∧ xs.length ≤ 1000000
    | .str xs => xs ≠ [] ∧ xs.length ≤ 1000000
    | _ => False
def q_S_pick  (ds : List D) (d : D) : Prop := bin ds fun p x => match x with
    | .lst xs => d ∈ xs
    | .tup xs => d ∈ xs
    | .str xs => ∃ c, d = .str [c] ∧ c ∈ xs
    | _ => False
def S_pick  : Spec := ⟨p_S_pick, q_S_pick⟩
theorem S_pick_pre  {x : D} {ds : List D} : S_pick.pre (x :: ds) = p_S_pick (x :: ds) := rfl
theorem S_pick_post  {x d : D} {ds : List D} : S_pick.post (x :: ds) d = q_S_pick (x :: ds) d := rfl
def b_pick : WS := (wRet (wOp oIx (wView 1) (wCall S_draw (wCons (wView 0) (wCons (wFn fLen (wCons (wView 1) wNil)) wNil)))))
theorem vc_pick : ∀ ds : List D, ds.length = 2 → S_pick.pre ds → b_pick { nx := fun _ => S_pick.post ds .non, rt := S_pick.post ds } (startD [false, false] ds 0) := by
  intro ds hl h
  match ds, h with
  | [p, x], h =>
  obtain ⟨hp, h⟩ : isTok p ∧ _ := h
  cases tok_is hp
  cases x with
  | lst xs =>
    obtain ⟨h1, h2⟩ : xs ≠ [] ∧ xs.length ≤ 1000000 := h
    have l := List.length_pos_iff.mpr h1
    simp only [b_pick, p_S_pick, q_S_pick, S_pick_pre, S_pick_post, draw_pre, draw_post, r_wVar, r_wView, r_wOwn, r_wC, r_wFlat, r_wNewD, r_wNewT, r_wOp, r_wNeg, r_wIsN, r_wNotN, r_wIsB, r_wTest, r_wAnd, r_wOr, r_wNot, r_wAndV, r_wOrV, r_wNotV, r_wIf, r_wChain, r_wNil, r_wCons, r_wTup, r_wLst, r_wCall, r_wFn, r_wIsI, r_woN, r_woS, r_wSlice, r_wMt, r_wMt0, r_wRange1, r_wRange2, r_wItems, r_wBoIt, r_wOwIt, r_wKeys, r_gNm, r_gsNil, r_gsCons, r_gTp, r_wYes, r_wComp, r_wDComp, r_wDCompT, r_wNext, r_wSeq, r_wBreak, r_wCont, r_wExpr, r_wRet, r_wRetN, r_wIfS, r_wAsg, r_wOwnAsg, r_wFrz, r_wAppend, r_wInsert, r_wExtend, r_wClear, r_wClearT, r_wPopT, r_wPopTo, r_wSetIx, r_wFor, r_wForOw, r_fLen, r_fAbs, r_fMin2, r_fMax2, r_fInt, r_fStr, r_fList, r_fTuple, r_fDict, r_fAll, r_fAny, r_mCount, r_mRfind, r_mFind, r_mStarts, r_mEnds, r_mSplit, r_mJoin, r_mIsupper, r_mIsalnum, r_mIsalpha, r_mIsdigit, r_mLower, r_wipe, r_wipe2, oAdd, oSub, oMul, oMod, oFdiv, oPow, oEq, oNe, oLt, oLe, oGt, oGe, oIn, oNin, oIx, inD, frz, setIx, dicIt, boIt, owIt, startD, cellVw, cellSh, cellOw, kInt, kStr, kBl, kLst, kDic, kTup, plain2, scal2, D.scal, D.flat, D.isNon, D.isBl, D.isTy, D.dat, D.key, celOf, List.replicate, List.getElem?_cons_zero, List.getElem?_cons_succ, List.set_cons_zero, List.set_cons_succ, Option.getD_some, forall_exists_index, and_imp, forall_eq, forall_eq_apply_imp_iff, forall_apply_eq_imp_iff, if_true, if_false, Bool.not_true, Bool.not_false, Bool.not_eq_true', Bool.true_and, Bool.and_true, Bool.false_and, Bool.and_false, Bool.false_eq_true, Bool.true_eq_false, ite_true, ite_false, reduceIte, true_and, and_true, false_or, or_false, true_or, or_true, atD0, atD1, atD2, Option.some.injEq, List.length_map, all_int, all_str, all_chr, all_bl, all_words, beq_iff_eq, Int.reduceLT, Int.reduceLE, Int.reduceEq, Int.reduceNeg, Int.reduceBEq, Int.reduceToNat, Int.reducePow, Nat.reduceAdd, Nat.reduceLT, Nat.reduceLeDiff, Bool.not_eq_eq_eq_not, decide_eq_true_eq, List.length_cons, List.length_nil, un, bin, tri, isTok, SZ, D.dic.injEq, D.dit.injEq, D.str.injEq, D.int.injEq, D.lst.injEq, D.bl.injEq, eqv_str, eqv_int, eqv_bl, eqv_is, eqv_si, eqv_sn, eqv_in, beq_self_eq_true, List.cons.injEq, exists_eq_left', forall_eq', exists_eq', exists_eq_left, exists_eq_right, Bool.and_self, Bool.or_self, Bool.or_true, Bool.or_false]
    refine ⟨by omega, fun r r0 r1 => ?_⟩
    obtain ⟨v, e, hv⟩ := atD_lt r0 r1
    exact ⟨v, e, hv⟩
  | tup xs =>
    obtain ⟨h1, h2⟩ : xs ≠ [] ∧ xs.length ≤ 1000000 := h
    have l := List.length_pos_iff.mpr h1
    simp only [b_pick, p_S_pick, q_S_pick, S_pick_pre, S_pick_post, draw_pre, draw_post, r_wVar, r_wView, r_wOwn, r_wC, r_wFlat, r_wNewD, r_wNewT, r_wOp, r_wNeg, r_wIsN, r_wNotN, r_wIsB, r_wTest, r_wAnd, r_wOr, r_wNot, r_wAndV, r_wOrV, r_wNotV, r_wIf, r_wChain, r_wNil, r_wCons, r_wTup, r_wLst, r_wCall, r_wFn, r_wIsI, r_woN, r_woS, r_wSlice, r_wMt, r_wMt0, r_wRange1, r_wRange2, r_wItems, r_wBoIt, r_wOwIt, r_wKeys, r_gNm, r_gsNil, r_gsCons, r_gTp, r_wYes, r_wComp, r_wDComp, r_wDCompT, r_wNext, r_wSeq, r_wBreak, r_wCont, r_wExpr, r_wRet, r_wRetN, r_wIfS, r_wAsg, r_wOwnAsg, r_wFrz, r_wAppend, r_wInsert, r_wExtend, r_wClear, r_wClearT, r_wPopT, r_wPopTo, r_wSetIx, r_wFor, r_wForOw, r_fLen, r_fAbs, r_fMin2, r_fMax2, r_fInt, r_fStr, r_fList, r_fTuple, r_fDict, r_fAll, r_fAny, r_mCount, r_mRfind, r_mFind, r_mStarts, r_mEnds, r_mSplit, r_mJoin, r_mIsupper, r_mIsalnum, r_mIsalpha, r_mIsdigit, r_mLower, r_wipe, r_wipe2, oAdd, oSub, oMul, oMod, oFdiv, oPow, oEq, oNe, oLt, oLe, oGt, oGe, oIn, oNin, oIx, inD, frz, setIx, dicIt, boIt, owIt, startD, cellVw, cellSh, cellOw, kInt, kStr, kBl, kLst, kDic, kTup, plain2, scal2, D.scal, D.flat, D.isNon, D.isBl, D.isTy, D.dat, D.key, celOf, List.replicate, List.getElem?_cons_zero, List.getElem?_cons_succ, List.set_cons_zero, List.set_cons_succ, Option.getD_some, forall_exists_index, and_imp, forall_eq, forall_eq_apply_imp_iff, forall_apply_eq_imp_iff, if_true, if_false, Bool.not_true, Bool.not_false, Bool.not_eq_true', Bool.true_and, Bool.and_true, Bool.false_and, Bool.and_false, Bool.false_eq_true, Bool.true_eq_false, ite_true, ite_false, reduceIte, true_and, and_true, false_or, or_false, true_or, or_true, atD0, atD1, atD2, Option.some.injEq, List.length_map, all_int, all_str, all_chr, all_bl, all_words, beq_iff_eq, Int.reduceLT, Int.reduceLE, Int.reduceEq, Int.reduceNeg, Int.reduceBEq, Int.reduceToNat, Int.reducePow, Nat.reduceAdd, Nat.reduceLT, Nat.reduceLeDiff, Bool.not_eq_eq_eq_not, decide_eq_true_eq, List.length_cons, List.length_nil, un, bin, tri, isTok, SZ, D.dic.injEq, D.dit.injEq, D.str.injEq, D.int.injEq, D.lst.injEq, D.bl.injEq, eqv_str, eqv_int, eqv_bl, eqv_is, eqv_si, eqv_sn, eqv_in, beq_self_eq_true, List.cons.injEq, exists_eq_left', forall_eq', exists_eq', exists_eq_left, exists_eq_right, Bool.and_self, Bool.or_self, Bool.or_true, Bool.or_false]
    refine ⟨by omega, fun r r0 r1 => ?_⟩
    obtain ⟨v, e, hv⟩ := atD_lt r0 r1
    exact ⟨v, e, hv⟩
  | str xs =>
    obtain ⟨h1, h2⟩ : xs ≠ [] ∧ xs.length ≤ 1000000 := h
    have l := List.length_pos_iff.mpr h1
    simp only [b_pick, p_S_pick, q_S_pick, S_pick_pre, S_pick_post, draw_pre, draw_post, r_wVar, r_wView, r_wOwn, r_wC, r_wFlat, r_wNewD, r_wNewT, r_wOp, r_wNeg, r_wIsN, r_wNotN, r_wIsB, r_wTest, r_wAnd, r_wOr, r_wNot, r_wAndV, r_wOrV, r_wNotV, r_wIf, r_wChain, r_wNil, r_wCons, r_wTup, r_wLst, r_wCall, r_wFn, r_wIsI, r_woN, r_woS, r_wSlice, r_wMt, r_wMt0, r_wRange1, r_wRange2, r_wItems, r_wBoIt, r_wOwIt, r_wKeys, r_gNm, r_gsNil, r_gsCons, r_gTp, r_wYes, r_wComp, r_wDComp, r_wDCompT, r_wNext, r_wSeq, r_wBreak, r_wCont, r_wExpr, r_wRet, r_wRetN, r_wIfS, r_wAsg, r_wOwnAsg, r_wFrz, r_wAppend, r_wInsert, r_wExtend, r_wClear, r_wClearT, r_wPopT, r_wPopTo, r_wSetIx, r_wFor, r_wForOw, r_fLen, r_fAbs, r_fMin2, r_fMax2, r_fInt, r_fStr, r_fList, r_fTuple, r_fDict, r_fAll, r_fAny, r_mCount, r_mRfind, r_mFind, r_mStarts, r_mEnds, r_mSplit, r_mJoin, r_mIsupper, r_mIsalnum, r_mIsalpha, r_mIsdigit, r_mLower, r_wipe, r_wipe2, oAdd, oSub, oMul, oMod, oFdiv, oPow, oEq, oNe, oLt, oLe, oGt, oGe, oIn, oNin, oIx, inD, frz, setIx, dicIt, boIt, owIt, startD, cellVw, cellSh, cellOw, kInt, kStr, kBl, kLst, kDic, kTup, plain2, scal2, D.scal, D.flat, D.isNon, D.isBl, D.isTy, D.dat, D.key, celOf, List.replicate, List.getElem?_cons_zero, List.getElem?_cons_succ, List.set_cons_zero, List.set_cons_succ, Option.getD_some, forall_exists_index, and_imp, forall_eq, forall_eq_apply_imp_iff, forall_apply_eq_imp_iff, if_true, if_false, Bool.not_true, Bool.not_false, Bool.not_eq_true', Bool.true_and, Bool.and_true, Bool.false_and, Bool.and_false, Bool.false_eq_true, Bool.true_eq_false, ite_true, ite_false, reduceIte, true_and, and_true, false_or, or_false, true_or, or_true, atD0, atD1, atD2, Option.some.injEq, List.length_map, all_int, all_str, all_chr, all_bl, all_words, beq_iff_eq, Int.reduceLT, Int.reduceLE, Int.reduceEq, Int.reduceNeg, Int.reduceBEq, Int.reduceToNat, Int.reducePow, Nat.reduceAdd, Nat.reduceLT, Nat.reduceLeDiff, Bool.not_eq_eq_eq_not, decide_eq_true_eq, List.length_cons, List.length_nil, un, bin, tri, isTok, SZ, D.dic.injEq, D.dit.injEq, D.str.injEq, D.int.injEq, D.lst.injEq, D.bl.injEq, eqv_str, eqv_int, eqv_bl, eqv_is, eqv_si, eqv_sn, eqv_in, beq_self_eq_true, List.cons.injEq, exists_eq_left', forall_eq', exists_eq', exists_eq_left, exists_eq_right, Bool.and_self, Bool.or_self, Bool.or_true, Bool.or_false]
    refine ⟨by omega, by omega, fun r r0 r1 => ?_⟩
    obtain ⟨v, e, hv⟩ := atD_lt r0 r1
    exact ⟨by omega, v, e, hv⟩
  | _ => exact h.elim

end DL

/-! DSame: the laws' comparison of two values. -/
namespace DL
/-! ### the comparison of two trees -/
/-- no dict, depth at most n -/
def D.dd : Nat → D → Prop
  | 0, _ => False
  | _ + 1, .non => True
  | _ + 1, .bl _ => True
  | _ + 1, .int _ => True
  | _ + 1, .str _ => True
  | n + 1, .tup xs => xs.length ≤ 10000000 ∧ ∀ x ∈ xs, D.dd n x
  | n + 1, .lst xs => xs.length ≤ 10000000 ∧ ∀ x ∈ xs, D.dd n x
  | _ + 1, _ => False
/-- dicts with keys of ints and texts -/
def D.ee : Nat → D → Prop
  | 0, _ => False
  | _ + 1, .non => True
  | _ + 1, .bl _ => True
  | _ + 1, .int _ => True
  | _ + 1, .str _ => True
  | n + 1, .tup xs => xs.length ≤ 10000000 ∧ ∀ x ∈ xs, D.ee n x
  | n + 1, .lst xs => xs.length ≤ 10000000 ∧ ∀ x ∈ xs, D.ee n x
  | n + 1, .dic kvs => 1 ≤ n ∧ kvs.length ≤ 10000000 ∧ (kvs.map (·.1)).Nodup ∧ (∀ p ∈ kvs, p.1.key = true) ∧ ∀ p ∈ kvs, D.ee n p.2
  | n + 1, .dit kvs => 1 ≤ n ∧ kvs.length ≤ 10000000 ∧ (kvs.map (·.1)).Nodup ∧ (∀ p ∈ kvs, p.1.nkey = true ∧ p.1.dd n) ∧ ∀ p ∈ kvs, D.ee n p.2
  | _ + 1, _ => False
/-- equal up to the order of a dict's entries (at the top) -/
def D.perm : D → D → Prop
  | .dic a, .dic b => a.Perm b
  | .dit a, .dit b => a.Perm b
  | x, y => x = y
theorem perm_rfl (x : D) : x.perm x := by
  cases x <;> first | exact List.Perm.refl _ | rfl
def okSame (n : Nat) (x y : D) : Prop := (x.perm y ∧ y.ee n) ∨ (x.dd n ∧ y.dd n)
def p_S_same (n : Nat) (ds : List D) : Prop := bin ds fun x y => okSame n x y
def q_S_same (n : Nat) (ds : List D) (d : D) : Prop := bin ds fun x y => ∃ b, d = .bl b ∧ (x.perm y → b = true) ∧ (b = true → x.dd n → y.dd n → x = y)
def S_same (n : Nat) : Spec := ⟨p_S_same n, q_S_same n⟩
theorem S_same_pre {n : Nat} {x : D} {ds : List D} : (S_same n).pre (x :: ds) = p_S_same n (x :: ds) := rfl
theorem S_same_post {n : Nat} {x d : D} {ds : List D} : (S_same n).post (x :: ds) d = q_S_same n (x :: ds) d := rfl
def b_same (S : Spec) : WS := (wSeq (wIfS (wOr (wTest (wIsN (wView 1))) (wOr (wTest (wIsB true (wView 1))) (wTest (wIsB false (wView 1)))))
  (wRet (wOrV (wAndV (wIsN (wView 0)) (wIsN (wView 1))) (wOrV (wAndV (wIsB true (wView 0)) (wIsB true (wView 1))) (wAndV (wIsB false (wView 0)) (wIsB false (wView 1))))))
  wNext)
  (wSeq (wIfS (wTest (wIsI .int (wView 1)))
  (wRet (wAndV (wIsI .int (wView 0)) (wAndV (wNotV (wIsI .bool (wView 0))) (wOp oEq (wView 0) (wView 1)))))
  wNext)
  (wSeq (wIfS (wTest (wIsI .str (wView 1)))
  (wRet (wAndV (wIsI .str (wView 0)) (wOp oEq (wView 0) (wView 1))))
  wNext)
  (wSeq (wIfS (wTest (wIsI .dict (wView 1)))
  (wSeq (wIfS (wOr (wNot (wTest (wIsI .dict (wView 0)))) (wTest (wOp oNe (wFn fLen (wCons (wView 0) wNil)) (wFn fLen (wCons (wView 1) wNil)))))
  (wRet (wC (.bl false)))
  wNext)
  (wSeq (wAsg (gNm 2) (wComp [3] (wKeys 0) (gNm 3) wYes (wVar 3)))
  (wSeq (wFor (wKeys 1) (gNm 3)
  (wIfS (wOr (wTest (wOp oNe (wFn fLen (wCons (wComp [5] (wItems (wVar 2)) (gNm 5) (wTest (wCall S (wCons (wView 5) (wCons (wView 3) wNil)))) (wVar 5)) wNil)) (wC (.int 1)))) (wNot (wTest (wCall S (wCons (wOp oIx (wView 0) (wView 3)) (wCons (wOp oIx (wView 1) (wView 3)) wNil))))))
  (wRet (wC (.bl false)))
  wNext))
  (wRet (wC (.bl true))))))
  wNext)
  (wSeq (wIfS (wOr (wTest (wOp oNe (wIsI .tuple (wView 1)) (wIsI .tuple (wView 0)))) (wOr (wTest (wOp oNe (wIsI .list (wView 1)) (wIsI .list (wView 0)))) (wTest (wOp oNe (wFn fLen (wCons (wView 0) wNil)) (wFn fLen (wCons (wView 1) wNil))))))
  (wRet (wC (.bl false)))
  wNext)
  (wSeq (wFor (wRange1 (wFn fLen (wCons (wView 1) wNil))) (gNm 4)
  (wIfS (wNot (wTest (wCall S (wCons (wOp oIx (wView 0) (wView 4)) (wCons (wOp oIx (wView 1) (wView 4)) wNil)))))
  (wRet (wC (.bl false)))
  wNext))
  (wRet (wC (.bl true)))))))))
theorem never_same : ∀ ds, ¬ (S_same 0).pre ds := by
  intro ds h
  match ds, h with
  | [x, y], h =>
    rcases (show okSame 0 x y from h) with ⟨_, h⟩ | ⟨h, _⟩
    · cases y <;> exact h
    · cases x <;> exact h
theorem same_pre {n : Nat} {x y : D} (h : okSame n x y) : (S_same n).pre [x, y] := h
theorem same_post {n : Nat} {x y d : D} : (S_same n).post [x, y] d ↔ ∃ b, d = .bl b ∧ (x.perm y → b = true) ∧ (b = true → x.dd n → y.dd n → x = y) := Iff.rfl
theorem same_perm {n : Nat} {x y d : D} (h : x.perm y) (hp : (S_same n).post [x, y] d) : d = .bl true := by
  obtain ⟨b, rfl, h', _⟩ := same_post.1 hp
  rw [h' h]
theorem same_eq {n : Nat} {x d : D} : (S_same n).post [x, x] d ↔ d = .bl true := by
  rw [same_post]
  constructor
  · rintro ⟨b, rfl, h, _⟩; rw [h (perm_rfl _)]
  · rintro rfl; exact ⟨true, rfl, fun _ => rfl, fun _ _ _ => rfl⟩
theorem one_key : ∀ {ks : List D} {k : D}, ks.Nodup → (∀ x ∈ ks, x.ky = true) → k ∈ ks → (ks.filter fun z => z.eqv k).length = 1
  | [], _, _, _, h => (List.not_mem_nil h).elim
  | x :: ks, k, hn, hk, h => by
    rw [List.nodup_cons] at hn
    have hk' : ∀ x ∈ ks, x.ky = true := fun y hy => hk y (List.mem_cons_of_mem _ hy)
    have kk : k.ky = true := hk k h
    rcases List.mem_cons.mp h with rfl | h
    · rw [List.filter_cons, if_pos ((eqv_key kk kk).2 rfl)]
      have : (ks.filter fun z => z.eqv k) = [] := by
        rw [List.filter_eq_nil_iff]
        intro z hz e
        exact hn.1 ((eqv_key (hk' z hz) kk).1 e ▸ hz)
      rw [this]; rfl
    · rw [List.filter_cons, if_neg fun e => ?_]
      · exact one_key hn.2 hk' h
      · exact hn.1 ((eqv_key (hk x (List.mem_cons_self ..)) kk).1 e ▸ h)
theorem dd_key {n : Nat} {x : D} (h : x.key = true) : x.dd (n + 1) := by cases x <;> first | trivial | cases h
theorem dd_ee : ∀ {n : Nat} {x : D}, x.dd n → x.ee n
  | 0, _, h => by cases h
  | n + 1, .non, _ => trivial
  | n + 1, .bl _, _ => trivial
  | n + 1, .int _, _ => trivial
  | n + 1, .str _, _ => trivial
  | n + 1, .tup xs, h => ⟨h.1, fun x hx => dd_ee (h.2 x hx)⟩
  | n + 1, .lst xs, h => ⟨h.1, fun x hx => dd_ee (h.2 x hx)⟩
  | n + 1, .dic _, h => (h : False).elim
  | n + 1, .dit _, h => (h : False).elim
  | n + 1, .tok, h => (h : False).elim
  | n + 1, .scr _, h => (h : False).elim
theorem perm_keys {a b : List (D × D)} (P : a.Perm b) : (a.map (·.1)).Perm (b.map (·.1)) := P.map _
set_option maxHeartbeats 4000000 in
theorem vc_same_dic (n : Nat) (kws kvs : List (D × D)) (P : kws.Perm kvs) (h : (D.dic kvs).ee (n + 1)) (Q : D → Prop) (post : Q (.bl true)) : b_same (S_same n) { nx := fun _ => Q .non, rt := Q } (startD [false, false] [.dic kws, .dic kvs] 4) := by
  obtain ⟨n1, kl, knd, hk, hv⟩ := h
  have hks0 : ∀ k ∈ kvs.map (·.1), k.key = true := fun k hk' => by
    obtain ⟨p, hp, rfl⟩ := List.mem_map.mp hk'
    exact hk p hp
  have hks : ∀ k ∈ kvs.map (·.1), k.ky = true := fun k h => key_ky (hks0 k h)
  have keyed : Keyed kvs := fun p hp => hks _ (List.mem_map.mpr ⟨p, hp, rfl⟩)
  have keyed' : Keyed kws := fun p hp => keyed p (P.mem_iff.mp hp)
  have knd' : (kws.map (·.1)).Nodup := (P.map _).nodup_iff.mpr knd
  have le : kws.length = kvs.length := P.length_eq
  obtain ⟨m, rfl⟩ : ∃ m, n = m + 1 := ⟨n - 1, by omega⟩
  simp only [b_same, le, r_wVar, r_wView, r_wOwn, r_wC, r_wFlat, r_wNewD, r_wNewT, r_wOp, r_wNeg, r_wIsN, r_wNotN, r_wIsB, r_wTest, r_wAnd, r_wOr, r_wNot, r_wAndV, r_wOrV, r_wNotV, r_wIf, r_wChain, r_wNil, r_wCons, r_wTup, r_wLst, r_wCall, r_wFn, r_wIsI, r_woN, r_woS, r_wSlice, r_wMt, r_wMt0, r_wRange1, r_wRange2, r_wItems, r_wBoIt, r_wOwIt, r_wKeys, r_gNm, r_gsNil, r_gsCons, r_gTp, r_wYes, r_wComp, r_wDComp, r_wDCompT, r_wNext, r_wSeq, r_wBreak, r_wCont, r_wExpr, r_wRet, r_wRetN, r_wIfS, r_wAsg, r_wOwnAsg, r_wFrz, r_wAppend, r_wInsert, r_wExtend, r_wClear, r_wClearT, r_wPopT, r_wPopTo, r_wSetIx, r_wFor, r_wForOw, r_fLen, r_fAbs, r_fMin2, r_fMax2, r_fInt, r_fStr, r_fList, r_fTuple, r_fDict, r_fAll, r_fAny, r_mCount, r_mRfind, r_mFind, r_mStarts, r_mEnds, r_mSplit, r_mJoin, r_mIsupper, r_mIsalnum, r_mIsalpha, r_mIsdigit, r_mLower, r_wipe, r_wipe2, oAdd, oSub, oMul, oMod, oFdiv, oPow, oEq, oNe, oLt, oLe, oGt, oGe, oIn, oNin, oIx, inD, frz, setIx, dicIt, boIt, owIt, startD, cellVw, cellSh, cellOw, kInt, kStr, kBl, kLst, kDic, kTup, plain2, scal2, D.scal, D.flat, D.isNon, D.isBl, D.isTy, D.dat, D.key, celOf, List.replicate, List.getElem?_cons_zero, List.getElem?_cons_succ, List.set_cons_zero, List.set_cons_succ, Option.getD_some, forall_exists_index, and_imp, forall_eq, forall_eq_apply_imp_iff, forall_apply_eq_imp_iff, if_true, if_false, Bool.not_true, Bool.not_false, Bool.not_eq_true', Bool.true_and, Bool.and_true, Bool.false_and, Bool.and_false, Bool.false_eq_true, Bool.true_eq_false, ite_true, ite_false, reduceIte, true_and, and_true, false_or, or_false, true_or, or_true, atD0, atD1, atD2, Option.some.injEq, List.length_map, all_int, all_str, all_chr, all_bl, all_words, beq_iff_eq, Int.reduceLT, Int.reduceLE, Int.reduceEq, Int.reduceNeg, Int.reduceBEq, Int.reduceToNat, Int.reducePow, Nat.reduceAdd, Nat.reduceLT, Nat.reduceLeDiff, Bool.not_eq_eq_eq_not, decide_eq_true_eq, List.length_cons, List.length_nil, un, bin, tri, isTok, SZ, D.dic.injEq, D.dit.injEq, D.str.injEq, D.int.injEq, D.lst.injEq, D.bl.injEq, eqv_str, eqv_int, eqv_bl, eqv_is, eqv_si, eqv_sn, eqv_in, beq_self_eq_true, List.cons.injEq, exists_eq_left', forall_eq', exists_eq', exists_eq_left, exists_eq_right, Bool.and_self, Bool.or_self, Bool.or_true, Bool.or_false]
  refine compD_ind (fun ds acc => acc ++ ds = kws.map (·.1)) ?_ ?_ _ _ rfl
  · rintro acc e
    rw [List.append_nil] at e
    subst e
    refine forD_ind (fun ds Γ => (∀ k ∈ ds, k ∈ kvs.map (·.1)) ∧ ∃ c3, Γ = [Cel.bo (.dic kws), .bo (.dic kvs), .sh (.lst (kws.map (·.1))), c3, .no, .no]) ?_ ?_ _ _ ?_
    · rintro Γ ⟨_, c3, rfl⟩
      simp only [r_wVar, r_wView, r_wOwn, r_wC, r_wFlat, r_wNewD, r_wNewT, r_wOp, r_wNeg, r_wIsN, r_wNotN, r_wIsB, r_wTest, r_wAnd, r_wOr, r_wNot, r_wAndV, r_wOrV, r_wNotV, r_wIf, r_wChain, r_wNil, r_wCons, r_wTup, r_wLst, r_wCall, r_wFn, r_wIsI, r_woN, r_woS, r_wSlice, r_wMt, r_wMt0, r_wRange1, r_wRange2, r_wItems, r_wBoIt, r_wOwIt, r_wKeys, r_gNm, r_gsNil, r_gsCons, r_gTp, r_wYes, r_wComp, r_wDComp, r_wDCompT, r_wNext, r_wSeq, r_wBreak, r_wCont, r_wExpr, r_wRet, r_wRetN, r_wIfS, r_wAsg, r_wOwnAsg, r_wFrz, r_wAppend, r_wInsert, r_wExtend, r_wClear, r_wClearT, r_wPopT, r_wPopTo, r_wSetIx, r_wFor, r_wForOw, r_fLen, r_fAbs, r_fMin2, r_fMax2, r_fInt, r_fStr, r_fList, r_fTuple, r_fDict, r_fAll, r_fAny, r_mCount, r_mRfind, r_mFind, r_mStarts, r_mEnds, r_mSplit, r_mJoin, r_mIsupper, r_mIsalnum, r_mIsalpha, r_mIsdigit, r_mLower, r_wipe, r_wipe2, oAdd, oSub, oMul, oMod, oFdiv, oPow, oEq, oNe, oLt, oLe, oGt, oGe, oIn, oNin, oIx, inD, frz, setIx, dicIt, boIt, owIt, startD, cellVw, cellSh, cellOw, kInt, kStr, kBl, kLst, kDic, kTup, plain2, scal2, D.scal, D.flat, D.isNon, D.isBl, D.isTy, D.dat, D.key, celOf, List.replicate, List.getElem?_cons_zero, List.getElem?_cons_succ, List.set_cons_zero, List.set_cons_succ, Option.getD_some, forall_exists_index, and_imp, forall_eq, forall_eq_apply_imp_iff, forall_apply_eq_imp_iff, if_true, if_false, Bool.not_true, Bool.not_false, Bool.not_eq_true', Bool.true_and, Bool.and_true, Bool.false_and, Bool.and_false, Bool.false_eq_true, Bool.true_eq_false, ite_true, ite_false, reduceIte, true_and, and_true, false_or, or_false, true_or, or_true, atD0, atD1, atD2, Option.some.injEq, List.length_map, all_int, all_str, all_chr, all_bl, all_words, beq_iff_eq, Int.reduceLT, Int.reduceLE, Int.reduceEq, Int.reduceNeg, Int.reduceBEq, Int.reduceToNat, Int.reducePow, Nat.reduceAdd, Nat.reduceLT, Nat.reduceLeDiff, Bool.not_eq_eq_eq_not, decide_eq_true_eq, List.length_cons, List.length_nil, un, bin, tri, isTok, SZ, D.dic.injEq, D.dit.injEq, D.str.injEq, D.int.injEq, D.lst.injEq, D.bl.injEq, eqv_str, eqv_int, eqv_bl, eqv_is, eqv_si, eqv_sn, eqv_in, beq_self_eq_true, List.cons.injEq, exists_eq_left', forall_eq', exists_eq', exists_eq_left, exists_eq_right, Bool.and_self, Bool.or_self, Bool.or_true, Bool.or_false]
      exact post
    · rintro k ds Γ N ⟨hm, c3, rfl⟩ hN
      have hkm := hm k (List.mem_cons_self ..)
      have kk := hks k hkm
      have kk0 := hks0 k hkm
      obtain ⟨⟨k', v⟩, hp, rfl⟩ := List.mem_map.mp hkm
      have kk : k'.ky = true := kk
      have kk0 : k'.key = true := kk0
      have hv' := look_mem keyed knd hp
      have hw' := look_mem keyed' knd' (P.mem_iff.mpr hp)
      have vs : okSame (m + 1) v v := .inl ⟨perm_rfl _, hv _ hp⟩
      simp only [r_wVar, r_wView, r_wOwn, r_wC, r_wFlat, r_wNewD, r_wNewT, r_wOp, r_wNeg, r_wIsN, r_wNotN, r_wIsB, r_wTest, r_wAnd, r_wOr, r_wNot, r_wAndV, r_wOrV, r_wNotV, r_wIf, r_wChain, r_wNil, r_wCons, r_wTup, r_wLst, r_wCall, r_wFn, r_wIsI, r_woN, r_woS, r_wSlice, r_wMt, r_wMt0, r_wRange1, r_wRange2, r_wItems, r_wBoIt, r_wOwIt, r_wKeys, r_gNm, r_gsNil, r_gsCons, r_gTp, r_wYes, r_wComp, r_wDComp, r_wDCompT, r_wNext, r_wSeq, r_wBreak, r_wCont, r_wExpr, r_wRet, r_wRetN, r_wIfS, r_wAsg, r_wOwnAsg, r_wFrz, r_wAppend, r_wInsert, r_wExtend, r_wClear, r_wClearT, r_wPopT, r_wPopTo, r_wSetIx, r_wFor, r_wForOw, r_fLen, r_fAbs, r_fMin2, r_fMax2, r_fInt, r_fStr, r_fList, r_fTuple, r_fDict, r_fAll, r_fAny, r_mCount, r_mRfind, r_mFind, r_mStarts, r_mEnds, r_mSplit, r_mJoin, r_mIsupper, r_mIsalnum, r_mIsalpha, r_mIsdigit, r_mLower, r_wipe, r_wipe2, oAdd, oSub, oMul, oMod, oFdiv, oPow, oEq, oNe, oLt, oLe, oGt, oGe, oIn, oNin, oIx, inD, frz, setIx, dicIt, boIt, owIt, startD, cellVw, cellSh, cellOw, kInt, kStr, kBl, kLst, kDic, kTup, plain2, scal2, D.scal, D.flat, D.isNon, D.isBl, D.isTy, D.dat, D.key, celOf, List.replicate, List.getElem?_cons_zero, List.getElem?_cons_succ, List.set_cons_zero, List.set_cons_succ, Option.getD_some, forall_exists_index, and_imp, forall_eq, forall_eq_apply_imp_iff, forall_apply_eq_imp_iff, if_true, if_false, Bool.not_true, Bool.not_false, Bool.not_eq_true', Bool.true_and, Bool.and_true, Bool.false_and, Bool.and_false, Bool.false_eq_true, Bool.true_eq_false, ite_true, ite_false, reduceIte, true_and, and_true, false_or, or_false, true_or, or_true, atD0, atD1, atD2, Option.some.injEq, List.length_map, all_int, all_str, all_chr, all_bl, all_words, beq_iff_eq, Int.reduceLT, Int.reduceLE, Int.reduceEq, Int.reduceNeg, Int.reduceBEq, Int.reduceToNat, Int.reducePow, Nat.reduceAdd, Nat.reduceLT, Nat.reduceLeDiff, Bool.not_eq_eq_eq_not, decide_eq_true_eq, List.length_cons, List.length_nil, un, bin, tri, isTok, SZ, D.dic.injEq, D.dit.injEq, D.str.injEq, D.int.injEq, D.lst.injEq, D.bl.injEq, eqv_str, eqv_int, eqv_bl, eqv_is, eqv_si, eqv_sn, eqv_in, beq_self_eq_true, List.cons.injEq, exists_eq_left', forall_eq', exists_eq', exists_eq_left, exists_eq_right, Bool.and_self, Bool.or_self, Bool.or_true, Bool.or_false]
      refine compD_ind (fun ds acc => (∀ x ∈ ds, x ∈ kws.map (·.1)) ∧ acc.length + ds.length ≤ kvs.length ∧ acc.length + (ds.filter fun z => z.eqv k').length = 1) ?_ ?_ _ _ ?_
      · rintro acc ⟨_, _, l⟩
        have l : acc.length = 1 := by simpa using l
        have kk' := kk0
        unfold D.key at kk'
        simp only [l, hv', hw', kk', same_eq, r_wVar, r_wView, r_wOwn, r_wC, r_wFlat, r_wNewD, r_wNewT, r_wOp, r_wNeg, r_wIsN, r_wNotN, r_wIsB, r_wTest, r_wAnd, r_wOr, r_wNot, r_wAndV, r_wOrV, r_wNotV, r_wIf, r_wChain, r_wNil, r_wCons, r_wTup, r_wLst, r_wCall, r_wFn, r_wIsI, r_woN, r_woS, r_wSlice, r_wMt, r_wMt0, r_wRange1, r_wRange2, r_wItems, r_wBoIt, r_wOwIt, r_wKeys, r_gNm, r_gsNil, r_gsCons, r_gTp, r_wYes, r_wComp, r_wDComp, r_wDCompT, r_wNext, r_wSeq, r_wBreak, r_wCont, r_wExpr, r_wRet, r_wRetN, r_wIfS, r_wAsg, r_wOwnAsg, r_wFrz, r_wAppend, r_wInsert, r_wExtend, r_wClear, r_wClearT, r_wPopT, r_wPopTo, r_wSetIx, r_wFor, r_wForOw, r_fLen, r_fAbs, r_fMin2, r_fMax2, r_fInt, r_fStr, r_fList, r_fTuple, r_fDict, r_fAll, r_fAny, r_mCount, r_mRfind, r_mFind, r_mStarts, r_mEnds, r_mSplit, r_mJoin, r_mIsupper, r_mIsalnum, r_mIsalpha, r_mIsdigit, r_mLower, r_wipe, r_wipe2, oAdd, oSub, oMul, oMod, oFdiv, oPow, oEq, oNe, oLt, oLe, oGt, oGe, oIn, oNin, oIx, inD, frz, setIx, dicIt, boIt, owIt, startD, cellVw, cellSh, cellOw, kInt, kStr, kBl, kLst, kDic, kTup, plain2, scal2, D.scal, D.flat, D.isNon, D.isBl, D.isTy, D.dat, D.key, celOf, List.replicate, List.getElem?_cons_zero, List.getElem?_cons_succ, List.set_cons_zero, List.set_cons_succ, Option.getD_some, forall_exists_index, and_imp, forall_eq, forall_eq_apply_imp_iff, forall_apply_eq_imp_iff, if_true, if_false, Bool.not_true, Bool.not_false, Bool.not_eq_true', Bool.true_and, Bool.and_true, Bool.false_and, Bool.and_false, Bool.false_eq_true, Bool.true_eq_false, ite_true, ite_false, reduceIte, true_and, and_true, false_or, or_false, true_or, or_true, atD0, atD1, atD2, Option.some.injEq, List.length_map, all_int, all_str, all_chr, all_bl, all_words, beq_iff_eq, Int.reduceLT, Int.reduceLE, Int.reduceEq, Int.reduceNeg, Int.reduceBEq, Int.reduceToNat, Int.reducePow, Nat.reduceAdd, Nat.reduceLT, Nat.reduceLeDiff, Bool.not_eq_eq_eq_not, decide_eq_true_eq, List.length_cons, List.length_nil, un, bin, tri, isTok, SZ, D.dic.injEq, D.dit.injEq, D.str.injEq, D.int.injEq, D.lst.injEq, D.bl.injEq, eqv_str, eqv_int, eqv_bl, eqv_is, eqv_si, eqv_sn, eqv_in, beq_self_eq_true, List.cons.injEq, exists_eq_left', forall_eq', exists_eq', exists_eq_left, exists_eq_right, Bool.and_self, Bool.or_self, Bool.or_true, Bool.or_false]
        exact ⟨same_pre vs, hN _ ⟨fun k hk => hm k (List.mem_cons_of_mem _ hk), _, rfl⟩⟩
      · rintro z zs acc N' ⟨hz, l, e⟩ hN'
        have zm : z ∈ kvs.map (·.1) := (P.map _).mem_iff.mp (hz z (List.mem_cons_self ..))
        have zk := hks z zm
        have zd : z.dd (m + 1) := dd_key (hks0 z zm)
        have kd : k'.dd (m + 1) := dd_key kk0
        have zs1 : okSame (m + 1) z k' := .inr ⟨zd, kd⟩
        simp only [same_post, r_wVar, r_wView, r_wOwn, r_wC, r_wFlat, r_wNewD, r_wNewT, r_wOp, r_wNeg, r_wIsN, r_wNotN, r_wIsB, r_wTest, r_wAnd, r_wOr, r_wNot, r_wAndV, r_wOrV, r_wNotV, r_wIf, r_wChain, r_wNil, r_wCons, r_wTup, r_wLst, r_wCall, r_wFn, r_wIsI, r_woN, r_woS, r_wSlice, r_wMt, r_wMt0, r_wRange1, r_wRange2, r_wItems, r_wBoIt, r_wOwIt, r_wKeys, r_gNm, r_gsNil, r_gsCons, r_gTp, r_wYes, r_wComp, r_wDComp, r_wDCompT, r_wNext, r_wSeq, r_wBreak, r_wCont, r_wExpr, r_wRet, r_wRetN, r_wIfS, r_wAsg, r_wOwnAsg, r_wFrz, r_wAppend, r_wInsert, r_wExtend, r_wClear, r_wClearT, r_wPopT, r_wPopTo, r_wSetIx, r_wFor, r_wForOw, r_fLen, r_fAbs, r_fMin2, r_fMax2, r_fInt, r_fStr, r_fList, r_fTuple, r_fDict, r_fAll, r_fAny, r_mCount, r_mRfind, r_mFind, r_mStarts, r_mEnds, r_mSplit, r_mJoin, r_mIsupper, r_mIsalnum, r_mIsalpha, r_mIsdigit, r_mLower, r_wipe, r_wipe2, oAdd, oSub, oMul, oMod, oFdiv, oPow, oEq, oNe, oLt, oLe, oGt, oGe, oIn, oNin, oIx, inD, frz, setIx, dicIt, boIt, owIt, startD, cellVw, cellSh, cellOw, kInt, kStr, kBl, kLst, kDic, kTup, plain2, scal2, D.scal, D.flat, D.isNon, D.isBl, D.isTy, D.dat, D.key, celOf, List.replicate, List.getElem?_cons_zero, List.getElem?_cons_succ, List.set_cons_zero, List.set_cons_succ, Option.getD_some, forall_exists_index, and_imp, forall_eq, forall_eq_apply_imp_iff, forall_apply_eq_imp_iff, if_true, if_false, Bool.not_true, Bool.not_false, Bool.not_eq_true', Bool.true_and, Bool.and_true, Bool.false_and, Bool.and_false, Bool.false_eq_true, Bool.true_eq_false, ite_true, ite_false, reduceIte, true_and, and_true, false_or, or_false, true_or, or_true, atD0, atD1, atD2, Option.some.injEq, List.length_map, all_int, all_str, all_chr, all_bl, all_words, beq_iff_eq, Int.reduceLT, Int.reduceLE, Int.reduceEq, Int.reduceNeg, Int.reduceBEq, Int.reduceToNat, Int.reducePow, Nat.reduceAdd, Nat.reduceLT, Nat.reduceLeDiff, Bool.not_eq_eq_eq_not, decide_eq_true_eq, List.length_cons, List.length_nil, un, bin, tri, isTok, SZ, D.dic.injEq, D.dit.injEq, D.str.injEq, D.int.injEq, D.lst.injEq, D.bl.injEq, eqv_str, eqv_int, eqv_bl, eqv_is, eqv_si, eqv_sn, eqv_in, beq_self_eq_true, List.cons.injEq, exists_eq_left', forall_eq', exists_eq', exists_eq_left, exists_eq_right, Bool.and_self, Bool.or_self, Bool.or_true, Bool.or_false]
        refine ⟨same_pre zs1, fun b b1 b2 => ?_⟩
        rw [List.filter_cons] at e
        rw [List.length_cons] at l
        refine ite2 (fun c => ⟨by omega, hN' _ ⟨fun x hx => hz x (List.mem_cons_of_mem _ hx), ?_, ?_⟩⟩) fun c => hN' _ ⟨fun x hx => hz x (List.mem_cons_of_mem _ hx), by omega, ?_⟩
        · rw [List.length_append]; show acc.length + 1 + _ ≤ _; omega
        · rw [if_pos ((eqv_key zk kk).2 (b2 c zd kd)), List.length_cons] at e
          rw [List.length_append]; show acc.length + 1 + _ = 1; omega
        · rw [if_neg (fun q => c (b1 (by rw [(eqv_key zk kk).1 q]; exact perm_rfl _)))] at e
          exact e
      · refine ⟨fun _ h => h, ?_, ?_⟩
        · rw [List.length_map]; show 0 + _ ≤ _; omega
        · show 0 + _ = 1
          rw [one_key knd' (fun x hx => hks x ((P.map _).mem_iff.mp hx)) ((P.map _).mem_iff.mpr hkm)]
    · exact ⟨fun k hk => hk, _, rfl⟩
  · rintro k ds acc N e hN
    simp only [r_wVar, r_wView, r_wOwn, r_wC, r_wFlat, r_wNewD, r_wNewT, r_wOp, r_wNeg, r_wIsN, r_wNotN, r_wIsB, r_wTest, r_wAnd, r_wOr, r_wNot, r_wAndV, r_wOrV, r_wNotV, r_wIf, r_wChain, r_wNil, r_wCons, r_wTup, r_wLst, r_wCall, r_wFn, r_wIsI, r_woN, r_woS, r_wSlice, r_wMt, r_wMt0, r_wRange1, r_wRange2, r_wItems, r_wBoIt, r_wOwIt, r_wKeys, r_gNm, r_gsNil, r_gsCons, r_gTp, r_wYes, r_wComp, r_wDComp, r_wDCompT, r_wNext, r_wSeq, r_wBreak, r_wCont, r_wExpr, r_wRet, r_wRetN, r_wIfS, r_wAsg, r_wOwnAsg, r_wFrz, r_wAppend, r_wInsert, r_wExtend, r_wClear, r_wClearT, r_wPopT, r_wPopTo, r_wSetIx, r_wFor, r_wForOw, r_fLen, r_fAbs, r_fMin2, r_fMax2, r_fInt, r_fStr, r_fList, r_fTuple, r_fDict, r_fAll, r_fAny, r_mCount, r_mRfind, r_mFind, r_mStarts, r_mEnds, r_mSplit, r_mJoin, r_mIsupper, r_mIsalnum, r_mIsalpha, r_mIsdigit, r_mLower, r_wipe, r_wipe2, oAdd, oSub, oMul, oMod, oFdiv, oPow, oEq, oNe, oLt, oLe, oGt, oGe, oIn, oNin, oIx, inD, frz, setIx, dicIt, boIt, owIt, startD, cellVw, cellSh, cellOw, kInt, kStr, kBl, kLst, kDic, kTup, plain2, scal2, D.scal, D.flat, D.isNon, D.isBl, D.isTy, D.dat, D.key, celOf, List.replicate, List.getElem?_cons_zero, List.getElem?_cons_succ, List.set_cons_zero, List.set_cons_succ, Option.getD_some, forall_exists_index, and_imp, forall_eq, forall_eq_apply_imp_iff, forall_apply_eq_imp_iff, if_true, if_false, Bool.not_true, Bool.not_false, Bool.not_eq_true', Bool.true_and, Bool.and_true, Bool.false_and, Bool.and_false, Bool.false_eq_true, Bool.true_eq_false, ite_true, ite_false, reduceIte, true_and, and_true, false_or, or_false, true_or, or_true, atD0, atD1, atD2, Option.some.injEq, List.length_map, all_int, all_str, all_chr, all_bl, all_words, beq_iff_eq, Int.reduceLT, Int.reduceLE, Int.reduceEq, Int.reduceNeg, Int.reduceBEq, Int.reduceToNat, Int.reducePow, Nat.reduceAdd, Nat.reduceLT, Nat.reduceLeDiff, Bool.not_eq_eq_eq_not, decide_eq_true_eq, List.length_cons, List.length_nil, un, bin, tri, isTok, SZ, D.dic.injEq, D.dit.injEq, D.str.injEq, D.int.injEq, D.lst.injEq, D.bl.injEq, eqv_str, eqv_int, eqv_bl, eqv_is, eqv_si, eqv_sn, eqv_in, beq_self_eq_true, List.cons.injEq, exists_eq_left', forall_eq', exists_eq', exists_eq_left, exists_eq_right, Bool.and_self, Bool.or_self, Bool.or_true, Bool.or_false]
    have : (acc ++ k :: ds).length = kws.length := by rw [e, List.length_map]
    rw [List.length_append, List.length_cons] at this
    refine ⟨by omega, hN _ ?_⟩
    rw [List.append_assoc]
    exact e
set_option maxHeartbeats 4000000 in
theorem vc_same_dit (n : Nat) (kws kvs : List (D × D)) (P : kws.Perm kvs) (h : (D.dit kvs).ee (n + 1)) (Q : D → Prop) (post : Q (.bl true)) : b_same (S_same n) { nx := fun _ => Q .non, rt := Q } (startD [false, false] [.dit kws, .dit kvs] 4) := by
  obtain ⟨n1, kl, knd, hk, hv⟩ := h
  have hks0 : ∀ k ∈ kvs.map (·.1), (k.nkey = true ∧ k.dd n) := fun k hk' => by
    obtain ⟨p, hp, rfl⟩ := List.mem_map.mp hk'
    exact hk p hp
  have hks : ∀ k ∈ kvs.map (·.1), k.ky = true := fun k h => nkey_ky (hks0 k h).1
  have keyed : Keyed kvs := fun p hp => hks _ (List.mem_map.mpr ⟨p, hp, rfl⟩)
  have keyed' : Keyed kws := fun p hp => keyed p (P.mem_iff.mp hp)
  have knd' : (kws.map (·.1)).Nodup := (P.map _).nodup_iff.mpr knd
  have le : kws.length = kvs.length := P.length_eq
  obtain ⟨m, rfl⟩ : ∃ m, n = m + 1 := ⟨n - 1, by omega⟩
  simp only [b_same, le, r_wVar, r_wView, r_wOwn, r_wC, r_wFlat, r_wNewD, r_wNewT, r_wOp, r_wNeg, r_wIsN, r_wNotN, r_wIsB, r_wTest, r_wAnd, r_wOr, r_wNot, r_wAndV, r_wOrV, r_wNotV, r_wIf, r_wChain, r_wNil, r_wCons, r_wTup, r_wLst, r_wCall, r_wFn, r_wIsI, r_woN, r_woS, r_wSlice, r_wMt, r_wMt0, r_wRange1, r_wRange2, r_wItems, r_wBoIt, r_wOwIt, r_wKeys, r_gNm, r_gsNil, r_gsCons, r_gTp, r_wYes, r_wComp, r_wDComp, r_wDCompT, r_wNext, r_wSeq, r_wBreak, r_wCont, r_wExpr, r_wRet, r_wRetN, r_wIfS, r_wAsg, r_wOwnAsg, r_wFrz, r_wAppend, r_wInsert, r_wExtend, r_wClear, r_wClearT, r_wPopT, r_wPopTo, r_wSetIx, r_wFor, r_wForOw, r_fLen, r_fAbs, r_fMin2, r_fMax2, r_fInt, r_fStr, r_fList, r_fTuple, r_fDict, r_fAll, r_fAny, r_mCount, r_mRfind, r_mFind, r_mStarts, r_mEnds, r_mSplit, r_mJoin, r_mIsupper, r_mIsalnum, r_mIsalpha, r_mIsdigit, r_mLower, r_wipe, r_wipe2, oAdd, oSub, oMul, oMod, oFdiv, oPow, oEq, oNe, oLt, oLe, oGt, oGe, oIn, oNin, oIx, inD, frz, setIx, dicIt, boIt, owIt, startD, cellVw, cellSh, cellOw, kInt, kStr, kBl, kLst, kDic, kTup, plain2, scal2, D.scal, D.flat, D.isNon, D.isBl, D.isTy, D.dat, D.key, celOf, List.replicate, List.getElem?_cons_zero, List.getElem?_cons_succ, List.set_cons_zero, List.set_cons_succ, Option.getD_some, forall_exists_index, and_imp, forall_eq, forall_eq_apply_imp_iff, forall_apply_eq_imp_iff, if_true, if_false, Bool.not_true, Bool.not_false, Bool.not_eq_true', Bool.true_and, Bool.and_true, Bool.false_and, Bool.and_false, Bool.false_eq_true, Bool.true_eq_false, ite_true, ite_false, reduceIte, true_and, and_true, false_or, or_false, true_or, or_true, atD0, atD1, atD2, Option.some.injEq, List.length_map, all_int, all_str, all_chr, all_bl, all_words, beq_iff_eq, Int.reduceLT, Int.reduceLE, Int.reduceEq, Int.reduceNeg, Int.reduceBEq, Int.reduceToNat, Int.reducePow, Nat.reduceAdd, Nat.reduceLT, Nat.reduceLeDiff, Bool.not_eq_eq_eq_not, decide_eq_true_eq, List.length_cons, List.length_nil, un, bin, tri, isTok, SZ, D.dic.injEq, D.dit.injEq, D.str.injEq, D.int.injEq, D.lst.injEq, D.bl.injEq, eqv_str, eqv_int, eqv_bl, eqv_is, eqv_si, eqv_sn, eqv_in, beq_self_eq_true, List.cons.injEq, exists_eq_left', forall_eq', exists_eq', exists_eq_left, exists_eq_right, Bool.and_self, Bool.or_self, Bool.or_true, Bool.or_false]
  refine compD_ind (fun ds acc => acc ++ ds = kws.map (·.1)) ?_ ?_ _ _ rfl
  · rintro acc e
    rw [List.append_nil] at e
    subst e
    refine forD_ind (fun ds Γ => (∀ k ∈ ds, k ∈ kvs.map (·.1)) ∧ ∃ c3, Γ = [Cel.bo (.dit kws), .bo (.dit kvs), .sh (.lst (kws.map (·.1))), c3, .no, .no]) ?_ ?_ _ _ ?_
    · rintro Γ ⟨_, c3, rfl⟩
      simp only [r_wVar, r_wView, r_wOwn, r_wC, r_wFlat, r_wNewD, r_wNewT, r_wOp, r_wNeg, r_wIsN, r_wNotN, r_wIsB, r_wTest, r_wAnd, r_wOr, r_wNot, r_wAndV, r_wOrV, r_wNotV, r_wIf, r_wChain, r_wNil, r_wCons, r_wTup, r_wLst, r_wCall, r_wFn, r_wIsI, r_woN, r_woS, r_wSlice, r_wMt, r_wMt0, r_wRange1, r_wRange2, r_wItems, r_wBoIt, r_wOwIt, r_wKeys, r_gNm, r_gsNil, r_gsCons, r_gTp, r_wYes, r_wComp, r_wDComp, r_wDCompT, r_wNext, r_wSeq, r_wBreak, r_wCont, r_wExpr, r_wRet, r_wRetN, r_wIfS, r_wAsg, r_wOwnAsg, r_wFrz, r_wAppend, r_wInsert, r_wExtend, r_wClear, r_wClearT, r_wPopT, r_wPopTo, r_wSetIx, r_wFor, r_wForOw, r_fLen, r_fAbs, r_fMin2, r_fMax2, r_fInt, r_fStr, r_fList, r_fTuple, r_fDict, r_fAll, r_fAny, r_mCount, r_mRfind, r_mFind, r_mStarts, r_mEnds, r_mSplit, r_mJoin, r_mIsupper, r_mIsalnum, r_mIsalpha, r_mIsdigit, r_mLower, r_wipe, r_wipe2, oAdd, oSub, oMul, oMod, oFdiv, oPow, oEq, oNe, oLt, oLe, oGt, oGe, oIn, oNin, oIx, inD, frz, setIx, dicIt, boIt, owIt, startD, cellVw, cellSh, cellOw, kInt, kStr, kBl, kLst, kDic, kTup, plain2, scal2, D.scal, D.flat, D.isNon, D.isBl, D.isTy, D.dat, D.key, celOf, List.replicate, List.getElem?_cons_zero, List.getElem?_cons_succ, List.set_cons_zero, List.set_cons_succ, Option.getD_some, forall_exists_index, and_imp, forall_eq, forall_eq_apply_imp_iff, forall_apply_eq_imp_iff, if_true, if_false, Bool.not_true, Bool.not_false, Bool.not_eq_true', Bool.true_and, Bool.and_true, Bool.false_and, Bool.and_false, Bool.false_eq_true, Bool.true_eq_false, ite_true, ite_false, reduceIte, true_and, and_true, false_or, or_false, true_or, or_true, atD0, atD1, atD2, Option.some.injEq, List.length_map, all_int, all_str, all_chr, all_bl, all_words, beq_iff_eq, Int.reduceLT, Int.reduceLE, Int.reduceEq, Int.reduceNeg, Int.reduceBEq, Int.reduceToNat, Int.reducePow, Nat.reduceAdd, Nat.reduceLT, Nat.reduceLeDiff, Bool.not_eq_eq_eq_not, decide_eq_true_eq, List.length_cons, List.length_nil, un, bin, tri, isTok, SZ, D.dic.injEq, D.dit.injEq, D.str.injEq, D.int.injEq, D.lst.injEq, D.bl.injEq, eqv_str, eqv_int, eqv_bl, eqv_is, eqv_si, eqv_sn, eqv_in, beq_self_eq_true, List.cons.injEq, exists_eq_left', forall_eq', exists_eq', exists_eq_left, exists_eq_right, Bool.and_self, Bool.or_self, Bool.or_true, Bool.or_false]
      exact post
    · rintro k ds Γ N ⟨hm, c3, rfl⟩ hN
      have hkm := hm k (List.mem_cons_self ..)
      have kk := hks k hkm
      have kk0 := hks0 k hkm
      obtain ⟨⟨k', v⟩, hp, rfl⟩ := List.mem_map.mp hkm
      have kk : k'.ky = true := kk
      have kk0 : (k'.nkey = true ∧ k'.dd (m + 1)) := kk0
      have hv' := look_mem keyed knd hp
      have hw' := look_mem keyed' knd' (P.mem_iff.mpr hp)
      have vs : okSame (m + 1) v v := .inl ⟨perm_rfl _, hv _ hp⟩
      simp only [r_wVar, r_wView, r_wOwn, r_wC, r_wFlat, r_wNewD, r_wNewT, r_wOp, r_wNeg, r_wIsN, r_wNotN, r_wIsB, r_wTest, r_wAnd, r_wOr, r_wNot, r_wAndV, r_wOrV, r_wNotV, r_wIf, r_wChain, r_wNil, r_wCons, r_wTup, r_wLst, r_wCall, r_wFn, r_wIsI, r_woN, r_woS, r_wSlice, r_wMt, r_wMt0, r_wRange1, r_wRange2, r_wItems, r_wBoIt, r_wOwIt, r_wKeys, r_gNm, r_gsNil, r_gsCons, r_gTp, r_wYes, r_wComp, r_wDComp, r_wDCompT, r_wNext, r_wSeq, r_wBreak, r_wCont, r_wExpr, r_wRet, r_wRetN, r_wIfS, r_wAsg, r_wOwnAsg, r_wFrz, r_wAppend, r_wInsert, r_wExtend, r_wClear, r_wClearT, r_wPopT, r_wPopTo, r_wSetIx, r_wFor, r_wForOw, r_fLen, r_fAbs, r_fMin2, r_fMax2, r_fInt, r_fStr, r_fList, r_fTuple, r_fDict, r_fAll, r_fAny, r_mCount, r_mRfind, r_mFind, r_mStarts, r_mEnds, r_mSplit, r_mJoin, r_mIsupper, r_mIsalnum, r_mIsalpha, r_mIsdigit, r_mLower, r_wipe, r_wipe2, oAdd, oSub, oMul, oMod, oFdiv, oPow, oEq, oNe, oLt, oLe, oGt, oGe, oIn, oNin, oIx, inD, frz, setIx, dicIt, boIt, owIt, startD, cellVw, cellSh, cellOw, kInt, kStr, kBl, kLst, kDic, kTup, plain2, scal2, D.scal, D.flat, D.isNon, D.isBl, D.isTy, D.dat, D.key, celOf, List.replicate, List.getElem?_cons_zero, List.getElem?_cons_succ, List.set_cons_zero, List.set_cons_succ, Option.getD_some, forall_exists_index, and_imp, forall_eq, forall_eq_apply_imp_iff, forall_apply_eq_imp_iff, if_true, if_false, Bool.not_true, Bool.not_false, Bool.not_eq_true', Bool.true_and, Bool.and_true, Bool.false_and, Bool.and_false, Bool.false_eq_true, Bool.true_eq_false, ite_true, ite_false, reduceIte, true_and, and_true, false_or, or_false, true_or, or_true, atD0, atD1, atD2, Option.some.injEq, List.length_map, all_int, all_str, all_chr, all_bl, all_words, beq_iff_eq, Int.reduceLT, Int.reduceLE, Int.reduceEq, Int.reduceNeg, Int.reduceBEq, Int.reduceToNat, Int.reducePow, Nat.reduceAdd, Nat.reduceLT, Nat.reduceLeDiff, Bool.not_eq_eq_eq_not, decide_eq_true_eq, List.length_cons, List.length_nil, un, bin, tri, isTok, SZ, D.dic.injEq, D.dit.injEq, D.str.injEq, D.int.injEq, D.lst.injEq, D.bl.injEq, eqv_str, eqv_int, eqv_bl, eqv_is, eqv_si, eqv_sn, eqv_in, beq_self_eq_true, List.cons.injEq, exists_eq_left', forall_eq', exists_eq', exists_eq_left, exists_eq_right, Bool.and_self, Bool.or_self, Bool.or_true, Bool.or_false]
      refine compD_ind (fun ds acc => (∀ x ∈ ds, x ∈ kws.map (·.1)) ∧ acc.length + ds.length ≤ kvs.length ∧ acc.length + (ds.filter fun z => z.eqv k').length = 1) ?_ ?_ _ _ ?_
      · rintro acc ⟨_, _, l⟩
        have l : acc.length = 1 := by simpa using l
        have kk' := kk0.1
        skip
        simp only [l, hv', hw', kk', same_eq, r_wVar, r_wView, r_wOwn, r_wC, r_wFlat, r_wNewD, r_wNewT, r_wOp, r_wNeg, r_wIsN, r_wNotN, r_wIsB, r_wTest, r_wAnd, r_wOr, r_wNot, r_wAndV, r_wOrV, r_wNotV, r_wIf, r_wChain, r_wNil, r_wCons, r_wTup, r_wLst, r_wCall, r_wFn, r_wIsI, r_woN, r_woS, r_wSlice, r_wMt, r_wMt0, r_wRange1, r_wRange2, r_wItems, r_wBoIt, r_wOwIt, r_wKeys, r_gNm, r_gsNil, r_gsCons, r_gTp, r_wYes, r_wComp, r_wDComp, r_wDCompT, r_wNext, r_wSeq, r_wBreak, r_wCont, r_wExpr, r_wRet, r_wRetN, r_wIfS, r_wAsg, r_wOwnAsg, r_wFrz, r_wAppend, r_wInsert, r_wExtend, r_wClear, r_wClearT, r_wPopT, r_wPopTo, r_wSetIx, r_wFor, r_wForOw, r_fLen, r_fAbs, r_fMin2, r_fMax2, r_fInt, r_fStr, r_fList, r_fTuple, r_fDict, r_fAll, r_fAny, r_mCount, r_mRfind, r_mFind, r_mStarts, r_mEnds, r_mSplit, r_mJoin, r_mIsupper, r_mIsalnum, r_mIsalpha, r_mIsdigit, r_mLower, r_wipe, r_wipe2, oAdd, oSub, oMul, oMod, oFdiv, oPow, oEq, oNe, oLt, oLe, oGt, oGe, oIn, oNin, oIx, inD, frz, setIx, dicIt, boIt, owIt, startD, cellVw, cellSh, cellOw, kInt, kStr, kBl, kLst, kDic, kTup, plain2, scal2, D.scal, D.flat, D.isNon, D.isBl, D.isTy, D.dat, D.key, celOf, List.replicate, List.getElem?_cons_zero, List.getElem?_cons_succ, List.set_cons_zero, List.set_cons_succ, Option.getD_some, forall_exists_index, and_imp, forall_eq, forall_eq_apply_imp_iff, forall_apply_eq_imp_iff, if_true, if_false, Bool.not_true, Bool.not_false, Bool.not_eq_true', Bool.true_and, Bool.and_true, Bool.false_and, Bool.and_false, Bool.false_eq_true, Bool.true_eq_false, ite_true, ite_false, reduceIte, true_and, and_true, false_or, or_false, true_or, or_true, atD0, atD1, atD2, Option.some.injEq, List.length_map, all_int, all_str, all_chr, all_bl, all_words, beq_iff_eq, Int.reduceLT, Int.reduceLE, Int.reduceEq, Int.reduceNeg, Int.reduceBEq, Int.reduceToNat, Int.reducePow, Nat.reduceAdd, Nat.reduceLT, Nat.reduceLeDiff, Bool.not_eq_eq_eq_not, decide_eq_true_eq, List.length_cons, List.length_nil, un, bin, tri, isTok, SZ, D.dic.injEq, D.dit.injEq, D.str.injEq, D.int.injEq, D.lst.injEq, D.bl.injEq, eqv_str, eqv_int, eqv_bl, eqv_is, eqv_si, eqv_sn, eqv_in, beq_self_eq_true, List.cons.injEq, exists_eq_left', forall_eq', exists_eq', exists_eq_left, exists_eq_right, Bool.and_self, Bool.or_self, Bool.or_true, Bool.or_false]
        exact ⟨same_pre vs, hN _ ⟨fun k hk => hm k (List.mem_cons_of_mem _ hk), _, rfl⟩⟩
      · rintro z zs acc N' ⟨hz, l, e⟩ hN'
        have zm : z ∈ kvs.map (·.1) := (P.map _).mem_iff.mp (hz z (List.mem_cons_self ..))
        have zk := hks z zm
        have zd : z.dd (m + 1) := (hks0 z zm).2
        have kd : k'.dd (m + 1) := kk0.2
        have zs1 : okSame (m + 1) z k' := .inr ⟨zd, kd⟩
        simp only [same_post, r_wVar, r_wView, r_wOwn, r_wC, r_wFlat, r_wNewD, r_wNewT, r_wOp, r_wNeg, r_wIsN, r_wNotN, r_wIsB, r_wTest, r_wAnd, r_wOr, r_wNot, r_wAndV, r_wOrV, r_wNotV, r_wIf, r_wChain, r_wNil, r_wCons, r_wTup, r_wLst, r_wCall, r_wFn, r_wIsI, r_woN, r_woS, r_wSlice, r_wMt, r_wMt0, r_wRange1, r_wRange2, r_wItems, r_wBoIt, r_wOwIt, r_wKeys, r_gNm, r_gsNil, r_gsCons, r_gTp, r_wYes, r_wComp, r_wDComp, r_wDCompT, r_wNext, r_wSeq, r_wBreak, r_wCont, r_wExpr, r_wRet, r_wRetN, r_wIfS, r_wAsg, r_wOwnAsg, r_wFrz, r_wAppend, r_wInsert, r_wExtend, r_wClear, r_wClearT, r_wPopT, r_wPopTo, r_wSetIx, r_wFor, r_wForOw, r_fLen, r_fAbs, r_fMin2, r_fMax2, r_fInt, r_fStr, r_fList, r_fTuple, r_fDict, r_fAll, r_fAny, r_mCount, r_mRfind, r_mFind, r_mStarts, r_mEnds, r_mSplit, r_mJoin, r_mIsupper, r_mIsalnum, r_mIsalpha, r_mIsdigit, r_mLower, r_wipe, r_wipe2, oAdd, oSub, oMul, oMod, oFdiv, oPow, oEq, oNe, oLt, oLe, oGt, oGe, oIn, oNin, oIx, inD, frz, setIx, dicIt, boIt, owIt, startD, cellVw, cellSh, cellOw, kInt, kStr, kBl, kLst, kDic, kTup, plain2, scal2, D.scal, D.flat, D.isNon, D.isBl, D.isTy, D.dat, D.key, celOf, List.replicate, List.getElem?_cons_zero, List.getElem?_cons_succ, List.set_cons_zero, List.set_cons_succ, Option.getD_some, forall_exists_index, and_imp, forall_eq, forall_eq_apply_imp_iff, forall_apply_eq_imp_iff, if_true, if_false, Bool.not_true, Bool.not_false, Bool.not_eq_true', Bool.true_and, Bool.and_true, Bool.false_and, Bool.and_false, Bool.false_eq_true, Bool.true_eq_false, ite_true, ite_false, reduceIte, true_and, and_true, false_or, or_false, true_or, or_true, atD0, atD1, atD2, Option.some.injEq, List.length_map, all_int, all_str, all_chr, all_bl, all_words, beq_iff_eq, Int.reduceLT, Int.reduceLE, Int.reduceEq, Int.reduceNeg, Int.reduceBEq, Int.reduceToNat, Int.reducePow, Nat.reduceAdd, Nat.reduceLT, Nat.reduceLeDiff, Bool.not_eq_eq_eq_not, decide_eq_true_eq, List.length_cons, List.length_nil, un, bin, tri, isTok, SZ, D.dic.injEq, D.dit.injEq, D.str.injEq, D.int.injEq, D.lst.injEq, D.bl.injEq, eqv_str, eqv_int, eqv_bl, eqv_is, eqv_si, eqv_sn, eqv_in, beq_self_eq_true, List.cons.injEq, exists_eq_left', forall_eq', exists_eq', exists_eq_left, exists_eq_right, Bool.and_self, Bool.or_self, Bool.or_true, Bool.or_false]
        refine ⟨same_pre zs1, fun b b1 b2 => ?_⟩
        rw [List.filter_cons] at e
        rw [List.length_cons] at l
        refine ite2 (fun c => ⟨by omega, hN' _ ⟨fun x hx => hz x (List.mem_cons_of_mem _ hx), ?_, ?_⟩⟩) fun c => hN' _ ⟨fun x hx => hz x (List.mem_cons_of_mem _ hx), by omega, ?_⟩
        · rw [List.length_append]; show acc.length + 1 + _ ≤ _; omega
        · rw [if_pos ((eqv_key zk kk).2 (b2 c zd kd)), List.length_cons] at e
          rw [List.length_append]; show acc.length + 1 + _ = 1; omega
        · rw [if_neg (fun q => c (b1 (by rw [(eqv_key zk kk).1 q]; exact perm_rfl _)))] at e
          exact e
      · refine ⟨fun _ h => h, ?_, ?_⟩
        · rw [List.length_map]; show 0 + _ ≤ _; omega
        · show 0 + _ = 1
          rw [one_key knd' (fun x hx => hks x ((P.map _).mem_iff.mp hx)) ((P.map _).mem_iff.mpr hkm)]
    · exact ⟨fun k hk => hk, _, rfl⟩
  · rintro k ds acc N e hN
    simp only [r_wVar, r_wView, r_wOwn, r_wC, r_wFlat, r_wNewD, r_wNewT, r_wOp, r_wNeg, r_wIsN, r_wNotN, r_wIsB, r_wTest, r_wAnd, r_wOr, r_wNot, r_wAndV, r_wOrV, r_wNotV, r_wIf, r_wChain, r_wNil, r_wCons, r_wTup, r_wLst, r_wCall, r_wFn, r_wIsI, r_woN, r_woS, r_wSlice, r_wMt, r_wMt0, r_wRange1, r_wRange2, r_wItems, r_wBoIt, r_wOwIt, r_wKeys, r_gNm, r_gsNil, r_gsCons, r_gTp, r_wYes, r_wComp, r_wDComp, r_wDCompT, r_wNext, r_wSeq, r_wBreak, r_wCont, r_wExpr, r_wRet, r_wRetN, r_wIfS, r_wAsg, r_wOwnAsg, r_wFrz, r_wAppend, r_wInsert, r_wExtend, r_wClear, r_wClearT, r_wPopT, r_wPopTo, r_wSetIx, r_wFor, r_wForOw, r_fLen, r_fAbs, r_fMin2, r_fMax2, r_fInt, r_fStr, r_fList, r_fTuple, r_fDict, r_fAll, r_fAny, r_mCount, r_mRfind, r_mFind, r_mStarts, r_mEnds, r_mSplit, r_mJoin, r_mIsupper, r_mIsalnum, r_mIsalpha, r_mIsdigit, r_mLower, r_wipe, r_wipe2, oAdd, oSub, oMul, oMod, oFdiv, oPow, oEq, oNe, oLt, oLe, oGt, oGe, oIn, oNin, oIx, inD, frz, setIx, dicIt, boIt, owIt, startD, cellVw, cellSh, cellOw, kInt, kStr, kBl, kLst, kDic, kTup, plain2, scal2, D.scal, D.flat, D.isNon, D.isBl, D.isTy, D.dat, D.key, celOf, List.replicate, List.getElem?_cons_zero, List.getElem?_cons_succ, List.set_cons_zero, List.set_cons_succ, Option.getD_some, forall_exists_index, and_imp, forall_eq, forall_eq_apply_imp_iff, forall_apply_eq_imp_iff, if_true, if_false, Bool.not_true, Bool.not_false, Bool.not_eq_true', Bool.true_and, Bool.and_true, Bool.false_and, Bool.and_false, Bool.false_eq_true, Bool.true_eq_false, ite_true, ite_false, reduceIte, true_and, and_true, false_or, or_false, true_or, or_true, atD0, atD1, atD2, Option.some.injEq, List.length_map, all_int, all_str, all_chr, all_bl, all_words, beq_iff_eq, Int.reduceLT, Int.reduceLE, Int.reduceEq, Int.reduceNeg, Int.reduceBEq, Int.reduceToNat, Int.reducePow, Nat.reduceAdd, Nat.reduceLT, Nat.reduceLeDiff, Bool.not_eq_eq_eq_not, decide_eq_true_eq, List.length_cons, List.length_nil, un, bin, tri, isTok, SZ, D.dic.injEq, D.dit.injEq, D.str.injEq, D.int.injEq, D.lst.injEq, D.bl.injEq, eqv_str, eqv_int, eqv_bl, eqv_is, eqv_si, eqv_sn, eqv_in, beq_self_eq_true, List.cons.injEq, exists_eq_left', forall_eq', exists_eq', exists_eq_left, exists_eq_right, Bool.and_self, Bool.or_self, Bool.or_true, Bool.or_false]
    have : (acc ++ k :: ds).length = kws.length := by rw [e, List.length_map]
    rw [List.length_append, List.length_cons] at this
    refine ⟨by omega, hN _ ?_⟩
    rw [List.append_assoc]
    exact e
def D.isD : D → Bool
  | .dic _ => true
  | .dit _ => true
  | _ => false
theorem perm_nd {x y : D} (h : y.isD = false) : x.perm y → x = y := by
  cases y <;> first | (cases h; done) | (cases x <;> exact id)
def okOld (n : Nat) (x y : D) : Prop := (x = y ∧ x.ee n) ∨ (x.dd n ∧ y.dd n)
theorem ok_old {n : Nat} {x y : D} (h : okOld n x y) : okSame n x y := by
  rcases h with ⟨rfl, h⟩ | h
  · exact .inl ⟨perm_rfl _, h⟩
  · exact .inr h
theorem same_cut {n : Nat} {x y : D} (h : okSame n x y) (hy : y.isD = false) : (x = y ∧ x.ee n) ∨ (x.dd n ∧ y.dd n) := by
  rcases h with ⟨h1, h2⟩ | h
  · cases perm_nd hy h1
    exact .inl ⟨rfl, h2⟩
  · exact .inr h
set_option maxHeartbeats 4000000 in
theorem vc_same (n : Nat) : ∀ ds : List D, ds.length = 2 → (S_same (n + 1)).pre ds → b_same (S_same n) { nx := fun _ => (S_same (n + 1)).post ds .non, rt := (S_same (n + 1)).post ds } (startD [false, false] ds 4) := by
  intro ds hl h
  match ds, h with
  | [x, y], h =>
  have h : okSame (n + 1) x y := h
  have post : ∀ b, (x.perm y → b = true) → (b = true → x.dd (n + 1) → y.dd (n + 1) → x = y) → (S_same (n + 1)).post [x, y] (.bl b) := fun b h h' => ⟨b, rfl, h, h'⟩
  generalize (S_same (n + 1)).post [x, y] = Q at post
  by_cases yd : y.isD = true
  · cases y with
    | dic kvs =>
      rcases h with ⟨p, hee⟩ | ⟨_, hee⟩
      · cases x with
        | dic kws => exact vc_same_dic n kws kvs p hee Q (post true (fun _ => rfl) (fun _ h => (h : False).elim))
        | _ => cases p
      · exact hee.elim
    | dit kvs =>
      rcases h with ⟨p, hee⟩ | ⟨_, hee⟩
      · cases x with
        | dit kws => exact vc_same_dit n kws kvs p hee Q (post true (fun _ => rfl) (fun _ h => (h : False).elim))
        | _ => cases p
      · exact hee.elim
    | _ => cases yd
  have yd : y.isD = false := by simpa using yd
  have post : ∀ b, (x = y → b = true) → (b = true → x.dd (n + 1) → y.dd (n + 1) → x = y) → Q (.bl b) := fun b h h' => post b (fun p => h (perm_nd yd p)) h'
  have h := same_cut h yd
  have rows : ∀ (xs ys : List D) (a b : D), (∀ (k : Nat) u v, xs[k]? = some u → ys[k]? = some v → okOld n u v) → xs.length = ys.length → (xs = ys → Q (.bl true)) → (xs ≠ ys → Q (.bl false)) → (a = .lst xs ∧ b = .lst ys ∨ a = .tup xs ∧ b = .tup ys) →
      forD (gNm 4) (wIfS (wNot (wTest (wCall (S_same n) (wCons (wOp oIx (wView 0) (wView 4)) (wCons (wOp oIx (wView 1) (wView 4)) wNil))))) (wRet (wC (.bl false))) wNext)
        { nx := fun Γ' => wRet (wC (.bl true)) { nx := fun _ => Q .non, rt := Q } Γ', rt := Q } (fun _ => True) (List.map (fun i => D.int ((i : Nat) : Int)) (List.range ys.length)) [.bo a, .bo b, .no, .no, .no, .no] := by
    intro xs ys a b hc hl yes no hxy
    refine forD_ind (fun ds Γ => (∀ d ∈ ds, ∃ k : Nat, d = .int k ∧ k < ys.length) ∧ (∀ k : Nat, k < ys.length → xs[k]? = ys[k]? ∨ D.int k ∈ ds) ∧ ∃ c4, Γ = [.bo a, .bo b, .no, .no, c4, .no]) ?_ ?_ _ _ ?_
    · rintro Γ ⟨_, hk, c4, rfl⟩
      simp only [r_wVar, r_wView, r_wOwn, r_wC, r_wFlat, r_wNewD, r_wNewT, r_wOp, r_wNeg, r_wIsN, r_wNotN, r_wIsB, r_wTest, r_wAnd, r_wOr, r_wNot, r_wAndV, r_wOrV, r_wNotV, r_wIf, r_wChain, r_wNil, r_wCons, r_wTup, r_wLst, r_wCall, r_wFn, r_wIsI, r_woN, r_woS, r_wSlice, r_wMt, r_wMt0, r_wRange1, r_wRange2, r_wItems, r_wBoIt, r_wOwIt, r_wKeys, r_gNm, r_gsNil, r_gsCons, r_gTp, r_wYes, r_wComp, r_wDComp, r_wDCompT, r_wNext, r_wSeq, r_wBreak, r_wCont, r_wExpr, r_wRet, r_wRetN, r_wIfS, r_wAsg, r_wOwnAsg, r_wFrz, r_wAppend, r_wInsert, r_wExtend, r_wClear, r_wClearT, r_wPopT, r_wPopTo, r_wSetIx, r_wFor, r_wForOw, r_fLen, r_fAbs, r_fMin2, r_fMax2, r_fInt, r_fStr, r_fList, r_fTuple, r_fDict, r_fAll, r_fAny, r_mCount, r_mRfind, r_mFind, r_mStarts, r_mEnds, r_mSplit, r_mJoin, r_mIsupper, r_mIsalnum, r_mIsalpha, r_mIsdigit, r_mLower, r_wipe, r_wipe2, oAdd, oSub, oMul, oMod, oFdiv, oPow, oEq, oNe, oLt, oLe, oGt, oGe, oIn, oNin, oIx, inD, frz, setIx, dicIt, boIt, owIt, startD, cellVw, cellSh, cellOw, kInt, kStr, kBl, kLst, kDic, kTup, plain2, scal2, D.scal, D.flat, D.isNon, D.isBl, D.isTy, D.dat, D.key, celOf, List.replicate, List.getElem?_cons_zero, List.getElem?_cons_succ, List.set_cons_zero, List.set_cons_succ, Option.getD_some, forall_exists_index, and_imp, forall_eq, forall_eq_apply_imp_iff, forall_apply_eq_imp_iff, if_true, if_false, Bool.not_true, Bool.not_false, Bool.not_eq_true', Bool.true_and, Bool.and_true, Bool.false_and, Bool.and_false, Bool.false_eq_true, Bool.true_eq_false, ite_true, ite_false, reduceIte, true_and, and_true, false_or, or_false, true_or, or_true, atD0, atD1, atD2, Option.some.injEq, List.length_map, all_int, all_str, all_chr, all_bl, all_words, beq_iff_eq, Int.reduceLT, Int.reduceLE, Int.reduceEq, Int.reduceNeg, Int.reduceBEq, Int.reduceToNat, Int.reducePow, Nat.reduceAdd, Nat.reduceLT, Nat.reduceLeDiff, Bool.not_eq_eq_eq_not, decide_eq_true_eq, List.length_cons, List.length_nil, un, bin, tri, isTok, SZ, D.dic.injEq, D.dit.injEq, D.str.injEq, D.int.injEq, D.lst.injEq, D.bl.injEq, eqv_str, eqv_int, eqv_bl, eqv_is, eqv_si, eqv_sn, eqv_in, beq_self_eq_true, List.cons.injEq, exists_eq_left', forall_eq', exists_eq', exists_eq_left, exists_eq_right, Bool.and_self, Bool.or_self, Bool.or_true, Bool.or_false]
      refine yes (List.ext_getElem? fun k => ?_)
      by_cases c : k < ys.length
      · rcases hk k c with e | e
        · exact e
        · cases e
      · rw [List.getElem?_eq_none (by omega), List.getElem?_eq_none (by omega)]
    · rintro d ds Γ N ⟨hd, hk, c4, rfl⟩ hN
      obtain ⟨k, rfl, hkl⟩ := hd d (List.mem_cons_self ..)
      have hkx : k < xs.length := by omega
      have g1 : xs[k]? = some xs[k] := List.getElem?_eq_getElem hkx
      have g2 : ys[k]? = some ys[k] := List.getElem?_eq_getElem hkl
      have e1 : atD xs (k : Int) = some xs[k] := by rw [atD_nat (by omega) (by omega)]; exact g1
      have e2 : atD ys (k : Int) = some ys[k] := by rw [atD_nat (by omega) (by omega)]; exact g2
      have ok := hc k xs[k] ys[k] g1 g2
      have fin : ∀ c : Bool, (xs[k] = ys[k] → c = true) → (c = true → xs[k].dd n → ys[k].dd n → xs[k] = ys[k]) → if c = false then Q (.bl false) else N [.bo a, .bo b, .no, .no, .sh (.int k), .no] := by
        intro c b1 b2
        cases c with
        | true =>
          rw [if_neg (by decide)]
          have he : xs[k] = ys[k] := by
            rcases ok with ⟨e, _⟩ | ⟨p, q⟩
            · exact e
            · exact b2 rfl p q
          refine hN _ ⟨fun d h => hd d (List.mem_cons_of_mem _ h), fun j hj => ?_, _, rfl⟩
          rcases hk j hj with e | e
          · exact .inl e
          · rcases List.mem_cons.mp e with e | e
            · have : j = k := by have := D.int.inj e; omega
              subst this
              left
              rw [g1, g2, he]
            · exact .inr e
        | false =>
          rw [if_pos rfl]
          refine no fun e => ?_
          subst e
          exact absurd (b1 rfl) (by decide)
      rcases hxy with ⟨rfl, rfl⟩ | ⟨rfl, rfl⟩
      · simp only [e1, e2, same_post, r_wVar, r_wView, r_wOwn, r_wC, r_wFlat, r_wNewD, r_wNewT, r_wOp, r_wNeg, r_wIsN, r_wNotN, r_wIsB, r_wTest, r_wAnd, r_wOr, r_wNot, r_wAndV, r_wOrV, r_wNotV, r_wIf, r_wChain, r_wNil, r_wCons, r_wTup, r_wLst, r_wCall, r_wFn, r_wIsI, r_woN, r_woS, r_wSlice, r_wMt, r_wMt0, r_wRange1, r_wRange2, r_wItems, r_wBoIt, r_wOwIt, r_wKeys, r_gNm, r_gsNil, r_gsCons, r_gTp, r_wYes, r_wComp, r_wDComp, r_wDCompT, r_wNext, r_wSeq, r_wBreak, r_wCont, r_wExpr, r_wRet, r_wRetN, r_wIfS, r_wAsg, r_wOwnAsg, r_wFrz, r_wAppend, r_wInsert, r_wExtend, r_wClear, r_wClearT, r_wPopT, r_wPopTo, r_wSetIx, r_wFor, r_wForOw, r_fLen, r_fAbs, r_fMin2, r_fMax2, r_fInt, r_fStr, r_fList, r_fTuple, r_fDict, r_fAll, r_fAny, r_mCount, r_mRfind, r_mFind, r_mStarts, r_mEnds, r_mSplit, r_mJoin, r_mIsupper, r_mIsalnum, r_mIsalpha, r_mIsdigit, r_mLower, r_wipe, r_wipe2, oAdd, oSub, oMul, oMod, oFdiv, oPow, oEq, oNe, oLt, oLe, oGt, oGe, oIn, oNin, oIx, inD, frz, setIx, dicIt, boIt, owIt, startD, cellVw, cellSh, cellOw, kInt, kStr, kBl, kLst, kDic, kTup, plain2, scal2, D.scal, D.flat, D.isNon, D.isBl, D.isTy, D.dat, D.key, celOf, List.replicate, List.getElem?_cons_zero, List.getElem?_cons_succ, List.set_cons_zero, List.set_cons_succ, Option.getD_some, forall_exists_index, and_imp, forall_eq, forall_eq_apply_imp_iff, forall_apply_eq_imp_iff, if_true, if_false, Bool.not_true, Bool.not_false, Bool.not_eq_true', Bool.true_and, Bool.and_true, Bool.false_and, Bool.and_false, Bool.false_eq_true, Bool.true_eq_false, ite_true, ite_false, reduceIte, true_and, and_true, false_or, or_false, true_or, or_true, atD0, atD1, atD2, Option.some.injEq, List.length_map, all_int, all_str, all_chr, all_bl, all_words, beq_iff_eq, Int.reduceLT, Int.reduceLE, Int.reduceEq, Int.reduceNeg, Int.reduceBEq, Int.reduceToNat, Int.reducePow, Nat.reduceAdd, Nat.reduceLT, Nat.reduceLeDiff, Bool.not_eq_eq_eq_not, decide_eq_true_eq, List.length_cons, List.length_nil, un, bin, tri, isTok, SZ, D.dic.injEq, D.dit.injEq, D.str.injEq, D.int.injEq, D.lst.injEq, D.bl.injEq, eqv_str, eqv_int, eqv_bl, eqv_is, eqv_si, eqv_sn, eqv_in, beq_self_eq_true, List.cons.injEq, exists_eq_left', forall_eq', exists_eq', exists_eq_left, exists_eq_right, Bool.and_self, Bool.or_self, Bool.or_true, Bool.or_false]
        exact ⟨same_pre (ok_old ok), fun c b1 b2 => fin c (fun e => b1 (by rw [e]; exact perm_rfl _)) b2⟩
      · simp only [e1, e2, same_post, r_wVar, r_wView, r_wOwn, r_wC, r_wFlat, r_wNewD, r_wNewT, r_wOp, r_wNeg, r_wIsN, r_wNotN, r_wIsB, r_wTest, r_wAnd, r_wOr, r_wNot, r_wAndV, r_wOrV, r_wNotV, r_wIf, r_wChain, r_wNil, r_wCons, r_wTup, r_wLst, r_wCall, r_wFn, r_wIsI, r_woN, r_woS, r_wSlice, r_wMt, r_wMt0, r_wRange1, r_wRange2, r_wItems, r_wBoIt, r_wOwIt, r_wKeys, r_gNm, r_gsNil, r_gsCons, r_gTp, r_wYes, r_wComp, r_wDComp, r_wDCompT, r_wNext, r_wSeq, r_wBreak, r_wCont, r_wExpr, r_wRet, r_wRetN, r_wIfS, r_wAsg, r_wOwnAsg, r_wFrz, r_wAppend, r_wInsert, r_wExtend, r_wClear, r_wClearT, r_wPopT, r_wPopTo, r_wSetIx, r_wFor, r_wForOw, r_fLen, r_fAbs, r_fMin2, r_fMax2, r_fInt, r_fStr, r_fList, r_fTuple, r_fDict, r_fAll, r_fAny, r_mCount, r_mRfind, r_mFind, r_mStarts, r_mEnds, r_mSplit, r_mJoin, r_mIsupper, r_mIsalnum, r_mIsalpha, r_mIsdigit, r_mLower, r_wipe, r_wipe2, oAdd, oSub, oMul, oMod, oFdiv, oPow, oEq, oNe, oLt, oLe, oGt, oGe, oIn, oNin, oIx, inD, frz, setIx, dicIt, boIt, owIt, startD, cellVw, cellSh, cellOw, kInt, kStr, kBl, kLst, kDic, kTup, plain2, scal2, D.scal, D.flat, D.isNon, D.isBl, D.isTy, D.dat, D.key, celOf, List.replicate, List.getElem?_cons_zero, List.getElem?_cons_succ, List.set_cons_zero, List.set_cons_succ, Option.getD_some, forall_exists_index, and_imp, forall_eq, forall_eq_apply_imp_iff, forall_apply_eq_imp_iff, if_true, if_false, Bool.not_true, Bool.not_false, Bool.not_eq_true', Bool.true_and, Bool.and_true, Bool.false_and, Bool.and_false, Bool.false_eq_true, Bool.true_eq_false, ite_true, ite_false, reduceIte, true_and, and_true, false_or, or_false, true_or, or_true, atD0, atD1, atD2, Option.some.injEq, List.length_map, all_int, all_str, all_chr, all_bl, all_words, beq_iff_eq, Int.reduceLT, Int.reduceLE, Int.reduceEq, Int.reduceNeg, Int.reduceBEq, Int.reduceToNat, Int.reducePow, Nat.reduceAdd, Nat.reduceLT, Nat.reduceLeDiff, Bool.not_eq_eq_eq_not, decide_eq_true_eq, List.length_cons, List.length_nil, un, bin, tri, isTok, SZ, D.dic.injEq, D.dit.injEq, D.str.injEq, D.int.injEq, D.lst.injEq, D.bl.injEq, eqv_str, eqv_int, eqv_bl, eqv_is, eqv_si, eqv_sn, eqv_in, beq_self_eq_true, List.cons.injEq, exists_eq_left', forall_eq', exists_eq', exists_eq_left, exists_eq_right, Bool.and_self, Bool.or_self, Bool.or_true, Bool.or_false]
        exact ⟨same_pre (ok_old ok), fun c b1 b2 => fin c (fun e => b1 (by rw [e]; exact perm_rfl _)) b2⟩
    · refine ⟨fun d hd => ?_, fun k hk => .inr (List.mem_map.mpr ⟨k, List.mem_range.mpr hk, rfl⟩), _, rfl⟩
      obtain ⟨k, hk, rfl⟩ := List.mem_map.mp hd
      exact ⟨k, rfl, List.mem_range.mp hk⟩
  have sub : ∀ (xs ys : List D), (x = .lst xs ∧ y = .lst ys ∨ x = .tup xs ∧ y = .tup ys) → ∀ (k : Nat) u v, xs[k]? = some u → ys[k]? = some v → okOld n u v := by
    intro xs ys e k u v h1 h2
    have m1 := List.mem_of_getElem? h1
    have m2 := List.mem_of_getElem? h2
    rcases e with ⟨rfl, rfl⟩ | ⟨rfl, rfl⟩
    · rcases h with ⟨e, he⟩ | ⟨ha, hb⟩
      · cases e
        rw [h1] at h2
        cases h2
        exact .inl ⟨rfl, he.2 u m1⟩
      · exact .inr ⟨ha.2 u m1, hb.2 v m2⟩
    · rcases h with ⟨e, he⟩ | ⟨ha, hb⟩
      · cases e
        rw [h1] at h2
        cases h2
        exact .inl ⟨rfl, he.2 u m1⟩
      · exact .inr ⟨ha.2 u m1, hb.2 v m2⟩
  cases y with
  | scr ys => exfalso; rcases h with ⟨rfl, h⟩ | ⟨_, h⟩ <;> exact h
  | tok => exfalso; rcases h with ⟨rfl, h⟩ | ⟨_, h⟩ <;> exact h
  | dic kvs => cases yd
  | dit kvs => cases yd
  | non => cases x with
    | scr _ => (exfalso; rcases h with ⟨e, _⟩ | ⟨h, _⟩ <;> first | (cases e; done) | exact h)
    | tok => (exfalso; rcases h with ⟨e, _⟩ | ⟨h, _⟩ <;> first | (cases e; done) | exact h)
    | dic _ => (exfalso; rcases h with ⟨e, _⟩ | ⟨h, _⟩ <;> first | (cases e; done) | exact h)
    | dit _ => (exfalso; rcases h with ⟨e, _⟩ | ⟨h, _⟩ <;> first | (cases e; done) | exact h)
    | bl d => cases d <;> simp only [b_same, r_wVar, r_wView, r_wOwn, r_wC, r_wFlat, r_wNewD, r_wNewT, r_wOp, r_wNeg, r_wIsN, r_wNotN, r_wIsB, r_wTest, r_wAnd, r_wOr, r_wNot, r_wAndV, r_wOrV, r_wNotV, r_wIf, r_wChain, r_wNil, r_wCons, r_wTup, r_wLst, r_wCall, r_wFn, r_wIsI, r_woN, r_woS, r_wSlice, r_wMt, r_wMt0, r_wRange1, r_wRange2, r_wItems, r_wBoIt, r_wOwIt, r_wKeys, r_gNm, r_gsNil, r_gsCons, r_gTp, r_wYes, r_wComp, r_wDComp, r_wDCompT, r_wNext, r_wSeq, r_wBreak, r_wCont, r_wExpr, r_wRet, r_wRetN, r_wIfS, r_wAsg, r_wOwnAsg, r_wFrz, r_wAppend, r_wInsert, r_wExtend, r_wClear, r_wClearT, r_wPopT, r_wPopTo, r_wSetIx, r_wFor, r_wForOw, r_fLen, r_fAbs, r_fMin2, r_fMax2, r_fInt, r_fStr, r_fList, r_fTuple, r_fDict, r_fAll, r_fAny, r_mCount, r_mRfind, r_mFind, r_mStarts, r_mEnds, r_mSplit, r_mJoin, r_mIsupper, r_mIsalnum, r_mIsalpha, r_mIsdigit, r_mLower, r_wipe, r_wipe2, oAdd, oSub, oMul, oMod, oFdiv, oPow, oEq, oNe, oLt, oLe, oGt, oGe, oIn, oNin, oIx, inD, frz, setIx, dicIt, boIt, owIt, startD, cellVw, cellSh, cellOw, kInt, kStr, kBl, kLst, kDic, kTup, plain2, scal2, D.scal, D.flat, D.isNon, D.isBl, D.isTy, D.dat, D.key, celOf, List.replicate, List.getElem?_cons_zero, List.getElem?_cons_succ, List.set_cons_zero, List.set_cons_succ, Option.getD_some, forall_exists_index, and_imp, forall_eq, forall_eq_apply_imp_iff, forall_apply_eq_imp_iff, if_true, if_false, Bool.not_true, Bool.not_false, Bool.not_eq_true', Bool.true_and, Bool.and_true, Bool.false_and, Bool.and_false, Bool.false_eq_true, Bool.true_eq_false, ite_true, ite_false, reduceIte, true_and, and_true, false_or, or_false, true_or, or_true, atD0, atD1, atD2, Option.some.injEq, List.length_map, all_int, all_str, all_chr, all_bl, all_words, beq_iff_eq, Int.reduceLT, Int.reduceLE, Int.reduceEq, Int.reduceNeg, Int.reduceBEq, Int.reduceToNat, Int.reducePow, Nat.reduceAdd, Nat.reduceLT, Nat.reduceLeDiff, Bool.not_eq_eq_eq_not, decide_eq_true_eq, List.length_cons, List.length_nil, un, bin, tri, isTok, SZ, D.dic.injEq, D.dit.injEq, D.str.injEq, D.int.injEq, D.lst.injEq, D.bl.injEq, eqv_str, eqv_int, eqv_bl, eqv_is, eqv_si, eqv_sn, eqv_in, beq_self_eq_true, List.cons.injEq, exists_eq_left', forall_eq', exists_eq', exists_eq_left, exists_eq_right, Bool.and_self, Bool.or_self, Bool.or_true, Bool.or_false] <;> apply post <;> simp
    | _ => simp only [b_same, r_wVar, r_wView, r_wOwn, r_wC, r_wFlat, r_wNewD, r_wNewT, r_wOp, r_wNeg, r_wIsN, r_wNotN, r_wIsB, r_wTest, r_wAnd, r_wOr, r_wNot, r_wAndV, r_wOrV, r_wNotV, r_wIf, r_wChain, r_wNil, r_wCons, r_wTup, r_wLst, r_wCall, r_wFn, r_wIsI, r_woN, r_woS, r_wSlice, r_wMt, r_wMt0, r_wRange1, r_wRange2, r_wItems, r_wBoIt, r_wOwIt, r_wKeys, r_gNm, r_gsNil, r_gsCons, r_gTp, r_wYes, r_wComp, r_wDComp, r_wDCompT, r_wNext, r_wSeq, r_wBreak, r_wCont, r_wExpr, r_wRet, r_wRetN, r_wIfS, r_wAsg, r_wOwnAsg, r_wFrz, r_wAppend, r_wInsert, r_wExtend, r_wClear, r_wClearT, r_wPopT, r_wPopTo, r_wSetIx, r_wFor, r_wForOw, r_fLen, r_fAbs, r_fMin2, r_fMax2, r_fInt, r_fStr, r_fList, r_fTuple, r_fDict, r_fAll, r_fAny, r_mCount, r_mRfind, r_mFind, r_mStarts, r_mEnds, r_mSplit, r_mJoin, r_mIsupper, r_mIsalnum, r_mIsalpha, r_mIsdigit, r_mLower, r_wipe, r_wipe2, oAdd, oSub, oMul, oMod, oFdiv, oPow, oEq, oNe, oLt, oLe, oGt, oGe, oIn, oNin, oIx, inD, frz, setIx, dicIt, boIt, owIt, startD, cellVw, cellSh, cellOw, kInt, kStr, kBl, kLst, kDic, kTup, plain2, scal2, D.scal, D.flat, D.isNon, D.isBl, D.isTy, D.dat, D.key, celOf, List.replicate, List.getElem?_cons_zero, List.getElem?_cons_succ, List.set_cons_zero, List.set_cons_succ, Option.getD_some, forall_exists_index, and_imp, forall_eq, forall_eq_apply_imp_iff, forall_apply_eq_imp_iff, if_true, if_false, Bool.not_true, Bool.not_false, Bool.not_eq_true', Bool.true_and, Bool.and_true, Bool.false_and, Bool.and_false, Bool.false_eq_true, Bool.true_eq_false, ite_true, ite_false, reduceIte, true_and, and_true, false_or, or_false, true_or, or_true, atD0, atD1, atD2, Option.some.injEq, List.length_map, all_int, all_str, all_chr, all_bl, all_words, beq_iff_eq, Int.reduceLT, Int.reduceLE, Int.reduceEq, Int.reduceNeg, Int.reduceBEq, Int.reduceToNat, Int.reducePow, Nat.reduceAdd, Nat.reduceLT, Nat.reduceLeDiff, Bool.not_eq_eq_eq_not, decide_eq_true_eq, List.length_cons, List.length_nil, un, bin, tri, isTok, SZ, D.dic.injEq, D.dit.injEq, D.str.injEq, D.int.injEq, D.lst.injEq, D.bl.injEq, eqv_str, eqv_int, eqv_bl, eqv_is, eqv_si, eqv_sn, eqv_in, beq_self_eq_true, List.cons.injEq, exists_eq_left', forall_eq', exists_eq', exists_eq_left, exists_eq_right, Bool.and_self, Bool.or_self, Bool.or_true, Bool.or_false] <;> apply post <;> simp
  | bl c => cases c <;> (cases x with
    | scr _ => (exfalso; rcases h with ⟨e, _⟩ | ⟨h, _⟩ <;> first | (cases e; done) | exact h)
    | tok => (exfalso; rcases h with ⟨e, _⟩ | ⟨h, _⟩ <;> first | (cases e; done) | exact h)
    | dic _ => (exfalso; rcases h with ⟨e, _⟩ | ⟨h, _⟩ <;> first | (cases e; done) | exact h)
    | dit _ => (exfalso; rcases h with ⟨e, _⟩ | ⟨h, _⟩ <;> first | (cases e; done) | exact h)
    | bl d => cases d <;> simp only [b_same, r_wVar, r_wView, r_wOwn, r_wC, r_wFlat, r_wNewD, r_wNewT, r_wOp, r_wNeg, r_wIsN, r_wNotN, r_wIsB, r_wTest, r_wAnd, r_wOr, r_wNot, r_wAndV, r_wOrV, r_wNotV, r_wIf, r_wChain, r_wNil, r_wCons, r_wTup, r_wLst, r_wCall, r_wFn, r_wIsI, r_woN, r_woS, r_wSlice, r_wMt, r_wMt0, r_wRange1, r_wRange2, r_wItems, r_wBoIt, r_wOwIt, r_wKeys, r_gNm, r_gsNil, r_gsCons, r_gTp, r_wYes, r_wComp, r_wDComp, r_wDCompT, r_wNext, r_wSeq, r_wBreak, r_wCont, r_wExpr, r_wRet, r_wRetN, r_wIfS, r_wAsg, r_wOwnAsg, r_wFrz, r_wAppend, r_wInsert, r_wExtend, r_wClear, r_wClearT, r_wPopT, r_wPopTo, r_wSetIx, r_wFor, r_wForOw, r_fLen, r_fAbs, r_fMin2, r_fMax2, r_fInt, r_fStr, r_fList, r_fTuple, r_fDict, r_fAll, r_fAny, r_mCount, r_mRfind, r_mFind, r_mStarts, r_mEnds, r_mSplit, r_mJoin, r_mIsupper, r_mIsalnum, r_mIsalpha, r_mIsdigit, r_mLower, r_wipe, r_wipe2, oAdd, oSub, oMul, oMod, oFdiv, oPow, oEq, oNe, oLt, oLe, oGt, oGe, oIn, oNin, oIx, inD, frz, setIx, dicIt, boIt, owIt, startD, cellVw, cellSh, cellOw, kInt, kStr, kBl, kLst, kDic, kTup, plain2, scal2, D.scal, D.flat, D.isNon, D.isBl, D.isTy, D.dat, D.key, celOf, List.replicate, List.getElem?_cons_zero, List.getElem?_cons_succ, List.set_cons_zero, List.set_cons_succ, Option.getD_some, forall_exists_index, and_imp, forall_eq, forall_eq_apply_imp_iff, forall_apply_eq_imp_iff, if_true, if_false, Bool.not_true, Bool.not_false, Bool.not_eq_true', Bool.true_and, Bool.and_true, Bool.false_and, Bool.and_false, Bool.false_eq_true, Bool.true_eq_false, ite_true, ite_false, reduceIte, true_and, and_true, false_or, or_false, true_or, or_true, atD0, atD1, atD2, Option.some.injEq, List.length_map, all_int, all_str, all_chr, all_bl, all_words, beq_iff_eq, Int.reduceLT, Int.reduceLE, Int.reduceEq, Int.reduceNeg, Int.reduceBEq, Int.reduceToNat, Int.reducePow, Nat.reduceAdd, Nat.reduceLT, Nat.reduceLeDiff, Bool.not_eq_eq_eq_not, decide_eq_true_eq, List.length_cons, List.length_nil, un, bin, tri, isTok, SZ, D.dic.injEq, D.dit.injEq, D.str.injEq, D.int.injEq, D.lst.injEq, D.bl.injEq, eqv_str, eqv_int, eqv_bl, eqv_is, eqv_si, eqv_sn, eqv_in, beq_self_eq_true, List.cons.injEq, exists_eq_left', forall_eq', exists_eq', exists_eq_left, exists_eq_right, Bool.and_self, Bool.or_self, Bool.or_true, Bool.or_false] <;> apply post <;> simp
    | _ => simp only [b_same, r_wVar, r_wView, r_wOwn, r_wC, r_wFlat, r_wNewD, r_wNewT, r_wOp, r_wNeg, r_wIsN, r_wNotN, r_wIsB, r_wTest, r_wAnd, r_wOr, r_wNot, r_wAndV, r_wOrV, r_wNotV, r_wIf, r_wChain, r_wNil, r_wCons, r_wTup, r_wLst, r_wCall, r_wFn, r_wIsI, r_woN, r_woS, r_wSlice, r_wMt, r_wMt0, r_wRange1, r_wRange2, r_wItems, r_wBoIt, r_wOwIt, r_wKeys, r_gNm, r_gsNil, r_gsCons, r_gTp, r_wYes, r_wComp, r_wDComp, r_wDCompT, r_wNext, r_wSeq, r_wBreak, r_wCont, r_wExpr, r_wRet, r_wRetN, r_wIfS, r_wAsg, r_wOwnAsg, r_wFrz, r_wAppend, r_wInsert, r_wExtend, r_wClear, r_wClearT, r_wPopT, r_wPopTo, r_wSetIx, r_wFor, r_wForOw, r_fLen, r_fAbs, r_fMin2, r_fMax2, r_fInt, r_fStr, r_fList, r_fTuple, r_fDict, r_fAll, r_fAny, r_mCount, r_mRfind, r_mFind, r_mStarts, r_mEnds, r_mSplit, r_mJoin, r_mIsupper, r_mIsalnum, r_mIsalpha, r_mIsdigit, r_mLower, r_wipe, r_wipe2, oAdd, oSub, oMul, oMod, oFdiv, oPow, oEq, oNe, oLt, oLe, oGt, oGe, oIn, oNin, oIx, inD, frz, setIx, dicIt, boIt, owIt, startD, cellVw, cellSh, cellOw, kInt, kStr, kBl, kLst, kDic, kTup, plain2, scal2, D.scal, D.flat, D.isNon, D.isBl, D.isTy, D.dat, D.key, celOf, List.replicate, List.getElem?_cons_zero, List.getElem?_cons_succ, List.set_cons_zero, List.set_cons_succ, Option.getD_some, forall_exists_index, and_imp, forall_eq, forall_eq_apply_imp_iff, forall_apply_eq_imp_iff, if_true, if_false, Bool.not_true, Bool.not_false, Bool.not_eq_true', Bool.true_and, Bool.and_true, Bool.false_and, Bool.and_false, Bool.false_eq_true, Bool.true_eq_false, ite_true, ite_false, reduceIte, true_and, and_true, false_or, or_false, true_or, or_true, atD0, atD1, atD2, Option.some.injEq, List.length_map, all_int, all_str, all_chr, all_bl, all_words, beq_iff_eq, Int.reduceLT, Int.reduceLE, Int.reduceEq, Int.reduceNeg, Int.reduceBEq, Int.reduceToNat, Int.reducePow, Nat.reduceAdd, Nat.reduceLT, Nat.reduceLeDiff, Bool.not_eq_eq_eq_not, decide_eq_true_eq, List.length_cons, List.length_nil, un, bin, tri, isTok, SZ, D.dic.injEq, D.dit.injEq, D.str.injEq, D.int.injEq, D.lst.injEq, D.bl.injEq, eqv_str, eqv_int, eqv_bl, eqv_is, eqv_si, eqv_sn, eqv_in, beq_self_eq_true, List.cons.injEq, exists_eq_left', forall_eq', exists_eq', exists_eq_left, exists_eq_right, Bool.and_self, Bool.or_self, Bool.or_true, Bool.or_false] <;> apply post <;> simp)
  | int i => cases x with
    | scr _ => (exfalso; rcases h with ⟨e, _⟩ | ⟨h, _⟩ <;> first | (cases e; done) | exact h)
    | tok => (exfalso; rcases h with ⟨e, _⟩ | ⟨h, _⟩ <;> first | (cases e; done) | exact h)
    | dic _ => (exfalso; rcases h with ⟨e, _⟩ | ⟨h, _⟩ <;> first | (cases e; done) | exact h)
    | dit _ => (exfalso; rcases h with ⟨e, _⟩ | ⟨h, _⟩ <;> first | (cases e; done) | exact h)
    | bl d => cases d <;> simp only [b_same, r_wVar, r_wView, r_wOwn, r_wC, r_wFlat, r_wNewD, r_wNewT, r_wOp, r_wNeg, r_wIsN, r_wNotN, r_wIsB, r_wTest, r_wAnd, r_wOr, r_wNot, r_wAndV, r_wOrV, r_wNotV, r_wIf, r_wChain, r_wNil, r_wCons, r_wTup, r_wLst, r_wCall, r_wFn, r_wIsI, r_woN, r_woS, r_wSlice, r_wMt, r_wMt0, r_wRange1, r_wRange2, r_wItems, r_wBoIt, r_wOwIt, r_wKeys, r_gNm, r_gsNil, r_gsCons, r_gTp, r_wYes, r_wComp, r_wDComp, r_wDCompT, r_wNext, r_wSeq, r_wBreak, r_wCont, r_wExpr, r_wRet, r_wRetN, r_wIfS, r_wAsg, r_wOwnAsg, r_wFrz, r_wAppend, r_wInsert, r_wExtend, r_wClear, r_wClearT, r_wPopT, r_wPopTo, r_wSetIx, r_wFor, r_wForOw, r_fLen, r_fAbs, r_fMin2, r_fMax2, r_fInt, r_fStr, r_fList, r_fTuple, r_fDict, r_fAll, r_fAny, r_mCount, r_mRfind, r_mFind, r_mStarts, r_mEnds, r_mSplit, r_mJoin, r_mIsupper, r_mIsalnum, r_mIsalpha, r_mIsdigit, r_mLower, r_wipe, r_wipe2, oAdd, oSub, oMul, oMod, oFdiv, oPow, oEq, oNe, oLt, oLe, oGt, oGe, oIn, oNin, oIx, inD, frz, setIx, dicIt, boIt, owIt, startD, cellVw, cellSh, cellOw, kInt, kStr, kBl, kLst, kDic, kTup, plain2, scal2, D.scal, D.flat, D.isNon, D.isBl, D.isTy, D.dat, D.key, celOf, List.replicate, List.getElem?_cons_zero, List.getElem?_cons_succ, List.set_cons_zero, List.set_cons_succ, Option.getD_some, forall_exists_index, and_imp, forall_eq, forall_eq_apply_imp_iff, forall_apply_eq_imp_iff, if_true, if_false, Bool.not_true, Bool.not_false, Bool.not_eq_true', Bool.true_and, Bool.and_true, Bool.false_and, Bool.and_false, Bool.false_eq_true, Bool.true_eq_false, ite_true, ite_false, reduceIte, true_and, and_true, false_or, or_false, true_or, or_true, atD0, atD1, atD2, Option.some.injEq, List.length_map, all_int, all_str, all_chr, all_bl, all_words, beq_iff_eq, Int.reduceLT, Int.reduceLE, Int.reduceEq, Int.reduceNeg, Int.reduceBEq, Int.reduceToNat, Int.reducePow, Nat.reduceAdd, Nat.reduceLT, Nat.reduceLeDiff, Bool.not_eq_eq_eq_not, decide_eq_true_eq, List.length_cons, List.length_nil, un, bin, tri, isTok, SZ, D.dic.injEq, D.dit.injEq, D.str.injEq, D.int.injEq, D.lst.injEq, D.bl.injEq, eqv_str, eqv_int, eqv_bl, eqv_is, eqv_si, eqv_sn, eqv_in, beq_self_eq_true, List.cons.injEq, exists_eq_left', forall_eq', exists_eq', exists_eq_left, exists_eq_right, Bool.and_self, Bool.or_self, Bool.or_true, Bool.or_false] <;> apply post <;> simp
    | _ => simp only [b_same, r_wVar, r_wView, r_wOwn, r_wC, r_wFlat, r_wNewD, r_wNewT, r_wOp, r_wNeg, r_wIsN, r_wNotN, r_wIsB, r_wTest, r_wAnd, r_wOr, r_wNot, r_wAndV, r_wOrV, r_wNotV, r_wIf, r_wChain, r_wNil, r_wCons, r_wTup, r_wLst, r_wCall, r_wFn, r_wIsI, r_woN, r_woS, r_wSlice, r_wMt, r_wMt0, r_wRange1, r_wRange2, r_wItems, r_wBoIt, r_wOwIt, r_wKeys, r_gNm, r_gsNil, r_gsCons, r_gTp, r_wYes, r_wComp, r_wDComp, r_wDCompT, r_wNext, r_wSeq, r_wBreak, r_wCont, r_wExpr, r_wRet, r_wRetN, r_wIfS, r_wAsg, r_wOwnAsg, r_wFrz, r_wAppend, r_wInsert, r_wExtend, r_wClear, r_wClearT, r_wPopT, r_wPopTo, r_wSetIx, r_wFor, r_wForOw, r_fLen, r_fAbs, r_fMin2, r_fMax2, r_fInt, r_fStr, r_fList, r_fTuple, r_fDict, r_fAll, r_fAny, r_mCount, r_mRfind, r_mFind, r_mStarts, r_mEnds, r_mSplit, r_mJoin, r_mIsupper, r_mIsalnum, r_mIsalpha, r_mIsdigit, r_mLower, r_wipe, r_wipe2, oAdd, oSub, oMul, oMod, oFdiv, oPow, oEq, oNe, oLt, oLe, oGt, oGe, oIn, oNin, oIx, inD, frz, setIx, dicIt, boIt, owIt, startD, cellVw, cellSh, cellOw, kInt, kStr, kBl, kLst, kDic, kTup, plain2, scal2, D.scal, D.flat, D.isNon, D.isBl, D.isTy, D.dat, D.key, celOf, List.replicate, List.getElem?_cons_zero, List.getElem?_cons_succ, List.set_cons_zero, List.set_cons_succ, Option.getD_some, forall_exists_index, and_imp, forall_eq, forall_eq_apply_imp_iff, forall_apply_eq_imp_iff, if_true, if_false, Bool.not_true, Bool.not_false, Bool.not_eq_true', Bool.true_and, Bool.and_true, Bool.false_and, Bool.and_false, Bool.false_eq_true, Bool.true_eq_false, ite_true, ite_false, reduceIte, true_and, and_true, false_or, or_false, true_or, or_true, atD0, atD1, atD2, Option.some.injEq, List.length_map, all_int, all_str, all_chr, all_bl, all_words, beq_iff_eq, Int.reduceLT, Int.reduceLE, Int.reduceEq, Int.reduceNeg, Int.reduceBEq, Int.reduceToNat, Int.reducePow, Nat.reduceAdd, Nat.reduceLT, Nat.reduceLeDiff, Bool.not_eq_eq_eq_not, decide_eq_true_eq, List.length_cons, List.length_nil, un, bin, tri, isTok, SZ, D.dic.injEq, D.dit.injEq, D.str.injEq, D.int.injEq, D.lst.injEq, D.bl.injEq, eqv_str, eqv_int, eqv_bl, eqv_is, eqv_si, eqv_sn, eqv_in, beq_self_eq_true, List.cons.injEq, exists_eq_left', forall_eq', exists_eq', exists_eq_left, exists_eq_right, Bool.and_self, Bool.or_self, Bool.or_true, Bool.or_false] <;> apply post <;> simp <;> (try exact fun a _ _ => a)
  | str t => cases x with
    | scr _ => (exfalso; rcases h with ⟨e, _⟩ | ⟨h, _⟩ <;> first | (cases e; done) | exact h)
    | tok => (exfalso; rcases h with ⟨e, _⟩ | ⟨h, _⟩ <;> first | (cases e; done) | exact h)
    | dic _ => (exfalso; rcases h with ⟨e, _⟩ | ⟨h, _⟩ <;> first | (cases e; done) | exact h)
    | dit _ => (exfalso; rcases h with ⟨e, _⟩ | ⟨h, _⟩ <;> first | (cases e; done) | exact h)
    | bl d => cases d <;> simp only [b_same, r_wVar, r_wView, r_wOwn, r_wC, r_wFlat, r_wNewD, r_wNewT, r_wOp, r_wNeg, r_wIsN, r_wNotN, r_wIsB, r_wTest, r_wAnd, r_wOr, r_wNot, r_wAndV, r_wOrV, r_wNotV, r_wIf, r_wChain, r_wNil, r_wCons, r_wTup, r_wLst, r_wCall, r_wFn, r_wIsI, r_woN, r_woS, r_wSlice, r_wMt, r_wMt0, r_wRange1, r_wRange2, r_wItems, r_wBoIt, r_wOwIt, r_wKeys, r_gNm, r_gsNil, r_gsCons, r_gTp, r_wYes, r_wComp, r_wDComp, r_wDCompT, r_wNext, r_wSeq, r_wBreak, r_wCont, r_wExpr, r_wRet, r_wRetN, r_wIfS, r_wAsg, r_wOwnAsg, r_wFrz, r_wAppend, r_wInsert, r_wExtend, r_wClear, r_wClearT, r_wPopT, r_wPopTo, r_wSetIx, r_wFor, r_wForOw, r_fLen, r_fAbs, r_fMin2, r_fMax2, r_fInt, r_fStr, r_fList, r_fTuple, r_fDict, r_fAll, r_fAny, r_mCount, r_mRfind, r_mFind, r_mStarts, r_mEnds, r_mSplit, r_mJoin, r_mIsupper, r_mIsalnum, r_mIsalpha, r_mIsdigit, r_mLower, r_wipe, r_wipe2, oAdd, oSub, oMul, oMod, oFdiv, oPow, oEq, oNe, oLt, oLe, oGt, oGe, oIn, oNin, oIx, inD, frz, setIx, dicIt, boIt, owIt, startD, cellVw, cellSh, cellOw, kInt, kStr, kBl, kLst, kDic, kTup, plain2, scal2, D.scal, D.flat, D.isNon, D.isBl, D.isTy, D.dat, D.key, celOf, List.replicate, List.getElem?_cons_zero, List.getElem?_cons_succ, List.set_cons_zero, List.set_cons_succ, Option.getD_some, forall_exists_index, and_imp, forall_eq, forall_eq_apply_imp_iff, forall_apply_eq_imp_iff, if_true, if_false, Bool.not_true, Bool.not_false, Bool.not_eq_true', Bool.true_and, Bool.and_true, Bool.false_and, Bool.and_false, Bool.false_eq_true, Bool.true_eq_false, ite_true, ite_false, reduceIte, true_and, and_true, false_or, or_false, true_or, or_true, atD0, atD1, atD2, Option.some.injEq, List.length_map, all_int, all_str, all_chr, all_bl, all_words, beq_iff_eq, Int.reduceLT, Int.reduceLE, Int.reduceEq, Int.reduceNeg, Int.reduceBEq, Int.reduceToNat, Int.reducePow, Nat.reduceAdd, Nat.reduceLT, Nat.reduceLeDiff, Bool.not_eq_eq_eq_not, decide_eq_true_eq, List.length_cons, List.length_nil, un, bin, tri, isTok, SZ, D.dic.injEq, D.dit.injEq, D.str.injEq, D.int.injEq, D.lst.injEq, D.bl.injEq, eqv_str, eqv_int, eqv_bl, eqv_is, eqv_si, eqv_sn, eqv_in, beq_self_eq_true, List.cons.injEq, exists_eq_left', forall_eq', exists_eq', exists_eq_left, exists_eq_right, Bool.and_self, Bool.or_self, Bool.or_true, Bool.or_false] <;> apply post <;> simp
    | _ => simp only [b_same, r_wVar, r_wView, r_wOwn, r_wC, r_wFlat, r_wNewD, r_wNewT, r_wOp, r_wNeg, r_wIsN, r_wNotN, r_wIsB, r_wTest, r_wAnd, r_wOr, r_wNot, r_wAndV, r_wOrV, r_wNotV, r_wIf, r_wChain, r_wNil, r_wCons, r_wTup, r_wLst, r_wCall, r_wFn, r_wIsI, r_woN, r_woS, r_wSlice, r_wMt, r_wMt0, r_wRange1, r_wRange2, r_wItems, r_wBoIt, r_wOwIt, r_wKeys, r_gNm, r_gsNil, r_gsCons, r_gTp, r_wYes, r_wComp, r_wDComp, r_wDCompT, r_wNext, r_wSeq, r_wBreak, r_wCont, r_wExpr, r_wRet, r_wRetN, r_wIfS, r_wAsg, r_wOwnAsg, r_wFrz, r_wAppend, r_wInsert, r_wExtend, r_wClear, r_wClearT, r_wPopT, r_wPopTo, r_wSetIx, r_wFor, r_wForOw, r_fLen, r_fAbs, r_fMin2, r_fMax2, r_fInt, r_fStr, r_fList, r_fTuple, r_fDict, r_fAll, r_fAny, r_mCount, r_mRfind, r_mFind, r_mStarts, r_mEnds, r_mSplit, r_mJoin, r_mIsupper, r_mIsalnum, r_mIsalpha, r_mIsdigit, r_mLower, r_wipe, r_wipe2, oAdd, oSub, oMul, oMod, oFdiv, oPow, oEq, oNe, oLt, oLe, oGt, oGe, oIn, oNin, oIx, inD, frz, setIx, dicIt, boIt, owIt, startD, cellVw, cellSh, cellOw, kInt, kStr, kBl, kLst, kDic, kTup, plain2, scal2, D.scal, D.flat, D.isNon, D.isBl, D.isTy, D.dat, D.key, celOf, List.replicate, List.getElem?_cons_zero, List.getElem?_cons_succ, List.set_cons_zero, List.set_cons_succ, Option.getD_some, forall_exists_index, and_imp, forall_eq, forall_eq_apply_imp_iff, forall_apply_eq_imp_iff, if_true, if_false, Bool.not_true, Bool.not_false, Bool.not_eq_true', Bool.true_and, Bool.and_true, Bool.false_and, Bool.and_false, Bool.false_eq_true, Bool.true_eq_false, ite_true, ite_false, reduceIte, true_and, and_true, false_or, or_false, true_or, or_true, atD0, atD1, atD2, Option.some.injEq, List.length_map, all_int, all_str, all_chr, all_bl, all_words, beq_iff_eq, Int.reduceLT, Int.reduceLE, Int.reduceEq, Int.reduceNeg, Int.reduceBEq, Int.reduceToNat, Int.reducePow, Nat.reduceAdd, Nat.reduceLT, Nat.reduceLeDiff, Bool.not_eq_eq_eq_not, decide_eq_true_eq, List.length_cons, List.length_nil, un, bin, tri, isTok, SZ, D.dic.injEq, D.dit.injEq, D.str.injEq, D.int.injEq, D.lst.injEq, D.bl.injEq, eqv_str, eqv_int, eqv_bl, eqv_is, eqv_si, eqv_sn, eqv_in, beq_self_eq_true, List.cons.injEq, exists_eq_left', forall_eq', exists_eq', exists_eq_left, exists_eq_right, Bool.and_self, Bool.or_self, Bool.or_true, Bool.or_false] <;> apply post <;> simp <;> (try exact fun a _ _ => a)
  | lst ys => cases x with
    | scr _ => (exfalso; rcases h with ⟨e, _⟩ | ⟨h, _⟩ <;> first | (cases e; done) | exact h)
    | tok => (exfalso; rcases h with ⟨e, _⟩ | ⟨h, _⟩ <;> first | (cases e; done) | exact h)
    | dic _ => (exfalso; rcases h with ⟨e, _⟩ | ⟨h, _⟩ <;> first | (cases e; done) | exact h)
    | dit _ => (exfalso; rcases h with ⟨e, _⟩ | ⟨h, _⟩ <;> first | (cases e; done) | exact h)
    | bl d => cases d <;> simp only [b_same, r_wVar, r_wView, r_wOwn, r_wC, r_wFlat, r_wNewD, r_wNewT, r_wOp, r_wNeg, r_wIsN, r_wNotN, r_wIsB, r_wTest, r_wAnd, r_wOr, r_wNot, r_wAndV, r_wOrV, r_wNotV, r_wIf, r_wChain, r_wNil, r_wCons, r_wTup, r_wLst, r_wCall, r_wFn, r_wIsI, r_woN, r_woS, r_wSlice, r_wMt, r_wMt0, r_wRange1, r_wRange2, r_wItems, r_wBoIt, r_wOwIt, r_wKeys, r_gNm, r_gsNil, r_gsCons, r_gTp, r_wYes, r_wComp, r_wDComp, r_wDCompT, r_wNext, r_wSeq, r_wBreak, r_wCont, r_wExpr, r_wRet, r_wRetN, r_wIfS, r_wAsg, r_wOwnAsg, r_wFrz, r_wAppend, r_wInsert, r_wExtend, r_wClear, r_wClearT, r_wPopT, r_wPopTo, r_wSetIx, r_wFor, r_wForOw, r_fLen, r_fAbs, r_fMin2, r_fMax2, r_fInt, r_fStr, r_fList, r_fTuple, r_fDict, r_fAll, r_fAny, r_mCount, r_mRfind, r_mFind, r_mStarts, r_mEnds, r_mSplit, r_mJoin, r_mIsupper, r_mIsalnum, r_mIsalpha, r_mIsdigit, r_mLower, r_wipe, r_wipe2, oAdd, oSub, oMul, oMod, oFdiv, oPow, oEq, oNe, oLt, oLe, oGt, oGe, oIn, oNin, oIx, inD, frz, setIx, dicIt, boIt, owIt, startD, cellVw, cellSh, cellOw, kInt, kStr, kBl, kLst, kDic, kTup, plain2, scal2, D.scal, D.flat, D.isNon, D.isBl, D.isTy, D.dat, D.key, celOf, List.replicate, List.getElem?_cons_zero, List.getElem?_cons_succ, List.set_cons_zero, List.set_cons_succ, Option.getD_some, forall_exists_index, and_imp, forall_eq, forall_eq_apply_imp_iff, forall_apply_eq_imp_iff, if_true, if_false, Bool.not_true, Bool.not_false, Bool.not_eq_true', Bool.true_and, Bool.and_true, Bool.false_and, Bool.and_false, Bool.false_eq_true, Bool.true_eq_false, ite_true, ite_false, reduceIte, true_and, and_true, false_or, or_false, true_or, or_true, atD0, atD1, atD2, Option.some.injEq, List.length_map, all_int, all_str, all_chr, all_bl, all_words, beq_iff_eq, Int.reduceLT, Int.reduceLE, Int.reduceEq, Int.reduceNeg, Int.reduceBEq, Int.reduceToNat, Int.reducePow, Nat.reduceAdd, Nat.reduceLT, Nat.reduceLeDiff, Bool.not_eq_eq_eq_not, decide_eq_true_eq, List.length_cons, List.length_nil, un, bin, tri, isTok, SZ, D.dic.injEq, D.dit.injEq, D.str.injEq, D.int.injEq, D.lst.injEq, D.bl.injEq, eqv_str, eqv_int, eqv_bl, eqv_is, eqv_si, eqv_sn, eqv_in, beq_self_eq_true, List.cons.injEq, exists_eq_left', forall_eq', exists_eq', exists_eq_left, exists_eq_right, Bool.and_self, Bool.or_self, Bool.or_true, Bool.or_false] <;> apply post <;> simp
    | lst xs =>
      simp only [b_same, r_wVar, r_wView, r_wOwn, r_wC, r_wFlat, r_wNewD, r_wNewT, r_wOp, r_wNeg, r_wIsN, r_wNotN, r_wIsB, r_wTest, r_wAnd, r_wOr, r_wNot, r_wAndV, r_wOrV, r_wNotV, r_wIf, r_wChain, r_wNil, r_wCons, r_wTup, r_wLst, r_wCall, r_wFn, r_wIsI, r_woN, r_woS, r_wSlice, r_wMt, r_wMt0, r_wRange1, r_wRange2, r_wItems, r_wBoIt, r_wOwIt, r_wKeys, r_gNm, r_gsNil, r_gsCons, r_gTp, r_wYes, r_wComp, r_wDComp, r_wDCompT, r_wNext, r_wSeq, r_wBreak, r_wCont, r_wExpr, r_wRet, r_wRetN, r_wIfS, r_wAsg, r_wOwnAsg, r_wFrz, r_wAppend, r_wInsert, r_wExtend, r_wClear, r_wClearT, r_wPopT, r_wPopTo, r_wSetIx, r_wFor, r_wForOw, r_fLen, r_fAbs, r_fMin2, r_fMax2, r_fInt, r_fStr, r_fList, r_fTuple, r_fDict, r_fAll, r_fAny, r_mCount, r_mRfind, r_mFind, r_mStarts, r_mEnds, r_mSplit, r_mJoin, r_mIsupper, r_mIsalnum, r_mIsalpha, r_mIsdigit, r_mLower, r_wipe, r_wipe2, oAdd, oSub, oMul, oMod, oFdiv, oPow, oEq, oNe, oLt, oLe, oGt, oGe, oIn, oNin, oIx, inD, frz, setIx, dicIt, boIt, owIt, startD, cellVw, cellSh, cellOw, kInt, kStr, kBl, kLst, kDic, kTup, plain2, scal2, D.scal, D.flat, D.isNon, D.isBl, D.isTy, D.dat, D.key, celOf, List.replicate, List.getElem?_cons_zero, List.getElem?_cons_succ, List.set_cons_zero, List.set_cons_succ, Option.getD_some, forall_exists_index, and_imp, forall_eq, forall_eq_apply_imp_iff, forall_apply_eq_imp_iff, if_true, if_false, Bool.not_true, Bool.not_false, Bool.not_eq_true', Bool.true_and, Bool.and_true, Bool.false_and, Bool.and_false, Bool.false_eq_true, Bool.true_eq_false, ite_true, ite_false, reduceIte, true_and, and_true, false_or, or_false, true_or, or_true, atD0, atD1, atD2, Option.some.injEq, List.length_map, all_int, all_str, all_chr, all_bl, all_words, beq_iff_eq, Int.reduceLT, Int.reduceLE, Int.reduceEq, Int.reduceNeg, Int.reduceBEq, Int.reduceToNat, Int.reducePow, Nat.reduceAdd, Nat.reduceLT, Nat.reduceLeDiff, Bool.not_eq_eq_eq_not, decide_eq_true_eq, List.length_cons, List.length_nil, un, bin, tri, isTok, SZ, D.dic.injEq, D.dit.injEq, D.str.injEq, D.int.injEq, D.lst.injEq, D.bl.injEq, eqv_str, eqv_int, eqv_bl, eqv_is, eqv_si, eqv_sn, eqv_in, beq_self_eq_true, List.cons.injEq, exists_eq_left', forall_eq', exists_eq', exists_eq_left, exists_eq_right, Bool.and_self, Bool.or_self, Bool.or_true, Bool.or_false]
      have hz : ys.length ≤ 10000000 := by
        rcases h with ⟨e, h⟩ | ⟨_, h⟩
        · cases e; exact h.1
        · exact h.1
      by_cases c : xs.length = ys.length
      · rw [if_neg (by simp [c])]
        refine ⟨⟨by omega, by omega⟩, ?_⟩
        rw [Int.toNat_natCast]
        exact rows xs ys _ _ (sub xs ys (.inl ⟨rfl, rfl⟩)) c (fun e => post _ (by simp) (fun _ _ _ => by rw [e])) (fun e => post _ (fun q => absurd (by cases q; rfl) e) (by simp)) (.inl ⟨rfl, rfl⟩)
      · rw [if_pos (by simp; omega)]
        exact post _ (fun e => by cases e; exact absurd rfl c) (by simp)
    | _ => simp only [b_same, r_wVar, r_wView, r_wOwn, r_wC, r_wFlat, r_wNewD, r_wNewT, r_wOp, r_wNeg, r_wIsN, r_wNotN, r_wIsB, r_wTest, r_wAnd, r_wOr, r_wNot, r_wAndV, r_wOrV, r_wNotV, r_wIf, r_wChain, r_wNil, r_wCons, r_wTup, r_wLst, r_wCall, r_wFn, r_wIsI, r_woN, r_woS, r_wSlice, r_wMt, r_wMt0, r_wRange1, r_wRange2, r_wItems, r_wBoIt, r_wOwIt, r_wKeys, r_gNm, r_gsNil, r_gsCons, r_gTp, r_wYes, r_wComp, r_wDComp, r_wDCompT, r_wNext, r_wSeq, r_wBreak, r_wCont, r_wExpr, r_wRet, r_wRetN, r_wIfS, r_wAsg, r_wOwnAsg, r_wFrz, r_wAppend, r_wInsert, r_wExtend, r_wClear, r_wClearT, r_wPopT, r_wPopTo, r_wSetIx, r_wFor, r_wForOw, r_fLen, r_fAbs, r_fMin2, r_fMax2, r_fInt, r_fStr, r_fList, r_fTuple, r_fDict, r_fAll, r_fAny, r_mCount, r_mRfind, r_mFind, r_mStarts, r_mEnds, r_mSplit, r_mJoin, r_mIsupper, r_mIsalnum, r_mIsalpha, r_mIsdigit, r_mLower, r_wipe, r_wipe2, oAdd, oSub, oMul, oMod, oFdiv, oPow, oEq, oNe, oLt, oLe, oGt, oGe, oIn, oNin, oIx, inD, frz, setIx, dicIt, boIt, owIt, startD, cellVw, cellSh, cellOw, kInt, kStr, kBl, kLst, kDic, kTup, plain2, scal2, D.scal, D.flat, D.isNon, D.isBl, D.isTy, D.dat, D.key, celOf, List.replicate, List.getElem?_cons_zero, List.getElem?_cons_succ, List.set_cons_zero, List.set_cons_succ, Option.getD_some, forall_exists_index, and_imp, forall_eq, forall_eq_apply_imp_iff, forall_apply_eq_imp_iff, if_true, if_false, Bool.not_true, Bool.not_false, Bool.not_eq_true', Bool.true_and, Bool.and_true, Bool.false_and, Bool.and_false, Bool.false_eq_true, Bool.true_eq_false, ite_true, ite_false, reduceIte, true_and, and_true, false_or, or_false, true_or, or_true, atD0, atD1, atD2, Option.some.injEq, List.length_map, all_int, all_str, all_chr, all_bl, all_words, beq_iff_eq, Int.reduceLT, Int.reduceLE, Int.reduceEq, Int.reduceNeg, Int.reduceBEq, Int.reduceToNat, Int.reducePow, Nat.reduceAdd, Nat.reduceLT, Nat.reduceLeDiff, Bool.not_eq_eq_eq_not, decide_eq_true_eq, List.length_cons, List.length_nil, un, bin, tri, isTok, SZ, D.dic.injEq, D.dit.injEq, D.str.injEq, D.int.injEq, D.lst.injEq, D.bl.injEq, eqv_str, eqv_int, eqv_bl, eqv_is, eqv_si, eqv_sn, eqv_in, beq_self_eq_true, List.cons.injEq, exists_eq_left', forall_eq', exists_eq', exists_eq_left, exists_eq_right, Bool.and_self, Bool.or_self, Bool.or_true, Bool.or_false] <;> apply post <;> simp
  | tup ys => cases x with
    | scr _ => (exfalso; rcases h with ⟨e, _⟩ | ⟨h, _⟩ <;> first | (cases e; done) | exact h)
    | tok => (exfalso; rcases h with ⟨e, _⟩ | ⟨h, _⟩ <;> first | (cases e; done) | exact h)
    | dic _ => (exfalso; rcases h with ⟨e, _⟩ | ⟨h, _⟩ <;> first | (cases e; done) | exact h)
    | dit _ => (exfalso; rcases h with ⟨e, _⟩ | ⟨h, _⟩ <;> first | (cases e; done) | exact h)
    | bl d => cases d <;> simp only [b_same, r_wVar, r_wView, r_wOwn, r_wC, r_wFlat, r_wNewD, r_wNewT, r_wOp, r_wNeg, r_wIsN, r_wNotN, r_wIsB, r_wTest, r_wAnd, r_wOr, r_wNot, r_wAndV, r_wOrV, r_wNotV, r_wIf, r_wChain, r_wNil, r_wCons, r_wTup, r_wLst, r_wCall, r_wFn, r_wIsI, r_woN, r_woS, r_wSlice, r_wMt, r_wMt0, r_wRange1, r_wRange2, r_wItems, r_wBoIt, r_wOwIt, r_wKeys, r_gNm, r_gsNil, r_gsCons, r_gTp, r_wYes, r_wComp, r_wDComp, r_wDCompT, r_wNext, r_wSeq, r_wBreak, r_wCont, r_wExpr, r_wRet, r_wRetN, r_wIfS, r_wAsg, r_wOwnAsg, r_wFrz, r_wAppend, r_wInsert, r_wExtend, r_wClear, r_wClearT, r_wPopT, r_wPopTo, r_wSetIx, r_wFor, r_wForOw, r_fLen, r_fAbs, r_fMin2, r_fMax2, r_fInt, r_fStr, r_fList, r_fTuple, r_fDict, r_fAll, r_fAny, r_mCount, r_mRfind, r_mFind, r_mStarts, r_mEnds, r_mSplit, r_mJoin, r_mIsupper, r_mIsalnum, r_mIsalpha, r_mIsdigit, r_mLower, r_wipe, r_wipe2, oAdd, oSub, oMul, oMod, oFdiv, oPow, oEq, oNe, oLt, oLe, oGt, oGe, oIn, oNin, oIx, inD, frz, setIx, dicIt, boIt, owIt, startD, cellVw, cellSh, cellOw, kInt, kStr, kBl, kLst, kDic, kTup, plain2, scal2, D.scal, D.flat, D.isNon, D.isBl, D.isTy, D.dat, D.key, celOf, List.replicate, List.getElem?_cons_zero, List.getElem?_cons_succ, List.set_cons_zero, List.set_cons_succ, Option.getD_some, forall_exists_index, and_imp, forall_eq, forall_eq_apply_imp_iff, forall_apply_eq_imp_iff, if_true, if_false, Bool.not_true, Bool.not_false, Bool.not_eq_true', Bool.true_and, Bool.and_true, Bool.false_and, Bool.and_false, Bool.false_eq_true, Bool.true_eq_false, ite_true, ite_false, reduceIte, true_and, and_true, false_or, or_false, true_or, or_true, atD0, atD1, atD2, Option.some.injEq, List.length_map, all_int, all_str, all_chr, all_bl, all_words, beq_iff_eq, Int.reduceLT, Int.reduceLE, Int.reduceEq, Int.reduceNeg, Int.reduceBEq, Int.reduceToNat, Int.reducePow, Nat.reduceAdd, Nat.reduceLT, Nat.reduceLeDiff, Bool.not_eq_eq_eq_not, decide_eq_true_eq, List.length_cons, List.length_nil, un, bin, tri, isTok, SZ, D.dic.injEq, D.dit.injEq, D.str.injEq, D.int.injEq, D.lst.injEq, D.bl.injEq, eqv_str, eqv_int, eqv_bl, eqv_is, eqv_si, eqv_sn, eqv_in, beq_self_eq_true, List.cons.injEq, exists_eq_left', forall_eq', exists_eq', exists_eq_left, exists_eq_right, Bool.and_self, Bool.or_self, Bool.or_true, Bool.or_false] <;> apply post <;> simp
    | tup xs =>
      simp only [b_same, r_wVar, r_wView, r_wOwn, r_wC, r_wFlat, r_wNewD, r_wNewT, r_wOp, r_wNeg, r_wIsN, r_wNotN, r_wIsB, r_wTest, r_wAnd, r_wOr, r_wNot, r_wAndV, r_wOrV, r_wNotV, r_wIf, r_wChain, r_wNil, r_wCons, r_wTup, r_wLst, r_wCall, r_wFn, r_wIsI, r_woN, r_woS, r_wSlice, r_wMt, r_wMt0, r_wRange1, r_wRange2, r_wItems, r_wBoIt, r_wOwIt, r_wKeys, r_gNm, r_gsNil, r_gsCons, r_gTp, r_wYes, r_wComp, r_wDComp, r_wDCompT, r_wNext, r_wSeq, r_wBreak, r_wCont, r_wExpr, r_wRet, r_wRetN, r_wIfS, r_wAsg, r_wOwnAsg, r_wFrz, r_wAppend, r_wInsert, r_wExtend, r_wClear, r_wClearT, r_wPopT, r_wPopTo, r_wSetIx, r_wFor, r_wForOw, r_fLen, r_fAbs, r_fMin2, r_fMax2, r_fInt, r_fStr, r_fList, r_fTuple, r_fDict, r_fAll, r_fAny, r_mCount, r_mRfind, r_mFind, r_mStarts, r_mEnds, r_mSplit, r_mJoin, r_mIsupper, r_mIsalnum, r_mIsalpha, r_mIsdigit, r_mLower, r_wipe, r_wipe2, oAdd, oSub, oMul, oMod, oFdiv, oPow, oEq, oNe, oLt, oLe, oGt, oGe, oIn, oNin, oIx, inD, frz, setIx, dicIt, boIt, owIt, startD, cellVw, cellSh, cellOw, kInt, kStr, kBl, kLst, kDic, kTup, plain2, scal2, D.scal, D.flat, D.isNon, D.isBl, D.isTy, D.dat, D.key, celOf, List.replicate, List.getElem?_cons_zero, List.getElem?_cons_succ, List.set_cons_zero, List.set_cons_succ, Option.getD_some, forall_exists_index, and_imp, forall_eq, forall_eq_apply_imp_iff, forall_apply_eq_imp_iff, if_true, if_false, Bool.not_true, Bool.not_false, Bool.not_eq_true', Bool.true_and, Bool.and_true, Bool.false_and, Bool.and_false, Bool.false_eq_true, Bool.true_eq_false, ite_true, ite_false, reduceIte, true_and, and_true, false_or, or_false, true_or, or_true, atD0, atD1, atD2, Option.some.injEq, List.length_map, all_int, all_str, all_chr, all_bl, all_words, beq_iff_eq, Int.reduceLT, Int.reduceLE, Int.reduceEq, Int.reduceNeg, Int.reduceBEq, Int.reduceToNat, Int.reducePow, Nat.reduceAdd, Nat.reduceLT, Nat.reduceLeDiff, Bool.not_eq_eq_eq_not, decide_eq_true_eq, List.length_cons, List.length_nil, un, bin, tri, isTok, SZ, D.dic.injEq, D.dit.injEq, D.str.injEq, D.int.injEq, D.lst.injEq, D.bl.injEq, eqv_str, eqv_int, eqv_bl, eqv_is, eqv_si, eqv_sn, eqv_in, beq_self_eq_true, List.cons.injEq, exists_eq_left', forall_eq', exists_eq', exists_eq_left, exists_eq_right, Bool.and_self, Bool.or_self, Bool.or_true, Bool.or_false]
      have hz : ys.length ≤ 10000000 := by
        rcases h with ⟨e, h⟩ | ⟨_, h⟩
        · cases e; exact h.1
        · exact h.1
      by_cases c : xs.length = ys.length
      · rw [if_neg (by simp [c])]
        refine ⟨⟨by omega, by omega⟩, ?_⟩
        rw [Int.toNat_natCast]
        exact rows xs ys _ _ (sub xs ys (.inr ⟨rfl, rfl⟩)) c (fun e => post _ (by simp) (fun _ _ _ => by rw [e])) (fun e => post _ (fun q => absurd (by cases q; rfl) e) (by simp)) (.inr ⟨rfl, rfl⟩)
      · rw [if_pos (by simp; omega)]
        exact post _ (fun e => by cases e; exact absurd rfl c) (by simp)
    | _ => simp only [b_same, r_wVar, r_wView, r_wOwn, r_wC, r_wFlat, r_wNewD, r_wNewT, r_wOp, r_wNeg, r_wIsN, r_wNotN, r_wIsB, r_wTest, r_wAnd, r_wOr, r_wNot, r_wAndV, r_wOrV, r_wNotV, r_wIf, r_wChain, r_wNil, r_wCons, r_wTup, r_wLst, r_wCall, r_wFn, r_wIsI, r_woN, r_woS, r_wSlice, r_wMt, r_wMt0, r_wRange1, r_wRange2, r_wItems, r_wBoIt, r_wOwIt, r_wKeys, r_gNm, r_gsNil, r_gsCons, r_gTp, r_wYes, r_wComp, r_wDComp, r_wDCompT, r_wNext, r_wSeq, r_wBreak, r_wCont, r_wExpr, r_wRet, r_wRetN, r_wIfS, r_wAsg, r_wOwnAsg, r_wFrz, r_wAppend, r_wInsert, r_wExtend, r_wClear, r_wClearT, r_wPopT, r_wPopTo, r_wSetIx, r_wFor, r_wForOw, r_fLen, r_fAbs, r_fMin2, r_fMax2, r_fInt, r_fStr, r_fList, r_fTuple, r_fDict, r_fAll, r_fAny, r_mCount, r_mRfind, r_mFind, r_mStarts, r_mEnds, r_mSplit, r_mJoin, r_mIsupper, r_mIsalnum, r_mIsalpha, r_mIsdigit, r_mLower, r_wipe, r_wipe2, oAdd, oSub, oMul, oMod, oFdiv, oPow, oEq, oNe, oLt, oLe, oGt, oGe, oIn, oNin, oIx, inD, frz, setIx, dicIt, boIt, owIt, startD, cellVw, cellSh, cellOw, kInt, kStr, kBl, kLst, kDic, kTup, plain2, scal2, D.scal, D.flat, D.isNon, D.isBl, D.isTy, D.dat, D.key, celOf, List.replicate, List.getElem?_cons_zero, List.getElem?_cons_succ, List.set_cons_zero, List.set_cons_succ, Option.getD_some, forall_exists_index, and_imp, forall_eq, forall_eq_apply_imp_iff, forall_apply_eq_imp_iff, if_true, if_false, Bool.not_true, Bool.not_false, Bool.not_eq_true', Bool.true_and, Bool.and_true, Bool.false_and, Bool.and_false, Bool.false_eq_true, Bool.true_eq_false, ite_true, ite_false, reduceIte, true_and, and_true, false_or, or_false, true_or, or_true, atD0, atD1, atD2, Option.some.injEq, List.length_map, all_int, all_str, all_chr, all_bl, all_words, beq_iff_eq, Int.reduceLT, Int.reduceLE, Int.reduceEq, Int.reduceNeg, Int.reduceBEq, Int.reduceToNat, Int.reducePow, Nat.reduceAdd, Nat.reduceLT, Nat.reduceLeDiff, Bool.not_eq_eq_eq_not, decide_eq_true_eq, List.length_cons, List.length_nil, un, bin, tri, isTok, SZ, D.dic.injEq, D.dit.injEq, D.str.injEq, D.int.injEq, D.lst.injEq, D.bl.injEq, eqv_str, eqv_int, eqv_bl, eqv_is, eqv_si, eqv_sn, eqv_in, beq_self_eq_true, List.cons.injEq, exists_eq_left', forall_eq', exists_eq', exists_eq_left, exists_eq_right, Bool.and_self, Bool.or_self, Bool.or_true, Bool.or_false] <;> apply post <;> simp
end DL

/-! DTerm: terms as texts; the defs of the program's module of terms, over trees. -/
namespace DL
def KW : List (List Nat) := [[100, 101, 112, 116, 104], [109, 111, 100, 117, 108, 101], [103, 105, 118, 101, 110], [115, 104, 111, 119, 110], [110, 111, 116], [99, 111, 117, 110, 116], [115, 117, 109], [109, 105, 110], [109, 97, 120], [110, 97, 109, 101], [110, 117, 109, 98, 101, 114]]
def kwD : List D := KW.map .str
def k_KEYWORDS : D := .tup kwD
def k_LONGEST : D := .int 8
def nv : List Nat := [110, 101, 118, 101, 114]
def lod (c : Nat) : Bool := loC c || diC c
def hdL : List Nat → Bool
  | c :: _ => loC c
  | [] => false
/-- a word -/
def wd (s : List Nat) : Bool := decide (s.length ≤ 8) && (s.all lod && (hdL s && (!nv.isPrefixOf s && !decide (s ∈ KW))))
abbrev isW (s : List Nat) : Prop := wd s = true
/-- letters and digits -/
def isA (c : Nat) : Prop := upC c = true ∨ loC c = true ∨ diC c = true
/-- a variable -/
def isV (w : List Nat) : Prop := w.length ≤ 8 ∧ (∃ c r, w = c :: r ∧ upC c = true) ∧ ∀ c ∈ w, isA c
/-- the marks, each with its sign -/
def pre (ms : List (List Nat)) : List Nat := (ms.map (· ++ [40])).flatten
def tyS (ms : List (List Nat)) (s : List Nat) : List Nat := pre ms ++ s ++ List.replicate ms.length 41
/-! the program's own functions, over trees -/
def okS (s : List Nat) : Prop := s.length ≤ 1000000 ∧ asc s = true
def okT (x : D) : Prop := (∃ i, x = .int i) ∨ ∃ s, x = .str s ∧ okS s
def headS (s : List Nat) : List Nat := cutD s none (some (rfindC 40 s + 1))
def botS (s : List Nat) : List Nat := cutD s (some (rfindC 40 s + 1)) (some ((s.length : Int) - (s.count 40 : Nat)))
def botD : D → D
  | .str s => .str (botS s)
  | x => x
def depI : D → Int
  | .str s => (s.count 40 : Nat)
  | _ => 0
def upS (s : List Nat) : Bool := s.any upC && s.all fun c => !loC c
def varX (x : D) : D := match x with
  | .str s => if upS (cutD (botS s) none (some 1)) = true then .str (botS s) else .non
  | _ => .non
/-- the different variables, in their order -/
def addV (acc : List (List Nat)) (x : D) : List (List Nat) := match varX x with
  | .str n => if n ∈ acc then acc else acc ++ [n]
  | _ => acc
def varsX (xs : List D) : List (List Nat) := xs.foldl addV []
/-- a ground term, by its parts -/
def grP : List (List Nat) → Bool
  | [] => false
  | ps => (List.replicate (ps.length - 1) 41).isSuffixOf (ps.getLastD []) && (ps.dropLast.all wd && wd ((ps.getLastD []).take ((ps.getLastD []).length - (ps.length - 1))))
def grd (s : List Nat) : Bool := grP (splitC 40 s)
def grX : D → Bool
  | .int i => decide (0 ≤ i)
  | .str s => grd s
  | _ => false
def sca : D → Prop
  | .int _ => True
  | .str _ => True
  | _ => False
def keyOf : D → KK
  | .int i => (false, .inl i)
  | .str s => (true, .inr s)
  | _ => (false, .inl 0)
def srtd (ys : List D) : Prop := ys.Pairwise fun p q => kLt (keyOf q) (keyOf p) = false
/-- the items of a list or a tuple -/
def kSeq (x : D) (f : List D → Prop) : Prop := match x with
  | .lst xs => f xs
  | .tup xs => f xs
  | _ => False
def p_S_is_word  (ds : List D) : Prop := un ds fun x => kStr x fun s => okS s
def q_S_is_word  (ds : List D) (d : D) : Prop := un ds fun x => kStr x fun s => d = .bl (wd s)
def S_is_word  : Spec := ⟨p_S_is_word, q_S_is_word⟩
theorem S_is_word_pre  {x : D} {ds : List D} : S_is_word.pre (x :: ds) = p_S_is_word (x :: ds) := rfl
theorem S_is_word_post  {x d : D} {ds : List D} : S_is_word.post (x :: ds) d = q_S_is_word (x :: ds) d := rfl
def p_S_depth_of  (ds : List D) : Prop := un ds okT
def q_S_depth_of  (ds : List D) (d : D) : Prop := un ds fun x => d = .int (depI x)
def S_depth_of  : Spec := ⟨p_S_depth_of, q_S_depth_of⟩
theorem S_depth_of_pre  {x : D} {ds : List D} : S_depth_of.pre (x :: ds) = p_S_depth_of (x :: ds) := rfl
theorem S_depth_of_post  {x d : D} {ds : List D} : S_depth_of.post (x :: ds) d = q_S_depth_of (x :: ds) d := rfl
def p_S_bottom_of  (ds : List D) : Prop := un ds okT
def q_S_bottom_of  (ds : List D) (d : D) : Prop := un ds fun x => d = botD x
def S_bottom_of  : Spec := ⟨p_S_bottom_of, q_S_bottom_of⟩
theorem S_bottom_of_pre  {x : D} {ds : List D} : S_bottom_of.pre (x :: ds) = p_S_bottom_of (x :: ds) := rfl
theorem S_bottom_of_post  {x d : D} {ds : List D} : S_bottom_of.post (x :: ds) d = q_S_bottom_of (x :: ds) d := rfl
def p_S_variable_of  (ds : List D) : Prop := un ds okT
def q_S_variable_of  (ds : List D) (d : D) : Prop := un ds fun x => d = varX x
def S_variable_of  : Spec := ⟨p_S_variable_of, q_S_variable_of⟩
theorem S_variable_of_pre  {x : D} {ds : List D} : S_variable_of.pre (x :: ds) = p_S_variable_of (x :: ds) := rfl
theorem S_variable_of_post  {x d : D} {ds : List D} : S_variable_of.post (x :: ds) d = q_S_variable_of (x :: ds) d := rfl
def p_S_variables_in  (ds : List D) : Prop := un ds fun x => kSeq x fun xs => xs.length ≤ 1000000 ∧ ∀ y ∈ xs, okT y
def q_S_variables_in  (ds : List D) (d : D) : Prop := un ds fun x => kSeq x fun xs => d = .lst ((varsX xs).map .str)
def S_variables_in  : Spec := ⟨p_S_variables_in, q_S_variables_in⟩
theorem S_variables_in_pre  {x : D} {ds : List D} : S_variables_in.pre (x :: ds) = p_S_variables_in (x :: ds) := rfl
theorem S_variables_in_post  {x d : D} {ds : List D} : S_variables_in.post (x :: ds) d = q_S_variables_in (x :: ds) d := rfl
def p_S_is_ground  (ds : List D) : Prop := un ds okT
def q_S_is_ground  (ds : List D) (d : D) : Prop := un ds fun x => d = .bl (grX x)
def S_is_ground  : Spec := ⟨p_S_is_ground, q_S_is_ground⟩
theorem S_is_ground_pre  {x : D} {ds : List D} : S_is_ground.pre (x :: ds) = p_S_is_ground (x :: ds) := rfl
theorem S_is_ground_post  {x d : D} {ds : List D} : S_is_ground.post (x :: ds) d = q_S_is_ground (x :: ds) d := rfl
def p_S_term_key  (ds : List D) : Prop := un ds sca
def q_S_term_key  (ds : List D) (d : D) : Prop := un ds fun x => d = kkD (keyOf x)
def S_term_key  : Spec := ⟨p_S_term_key, q_S_term_key⟩
theorem S_term_key_pre  {x : D} {ds : List D} : S_term_key.pre (x :: ds) = p_S_term_key (x :: ds) := rfl
theorem S_term_key_post  {x d : D} {ds : List D} : S_term_key.post (x :: ds) d = q_S_term_key (x :: ds) d := rfl
def p_S_sort_terms  (ds : List D) : Prop := un ds fun x => kSeq x fun xs => ∀ y ∈ xs, sca y
def q_S_sort_terms  (ds : List D) (d : D) : Prop := un ds fun x => kSeq x fun xs => ∃ ys, d = .lst ys ∧ ys.Perm xs ∧ srtd ys
def S_sort_terms  : Spec := ⟨p_S_sort_terms, q_S_sort_terms⟩
theorem S_sort_terms_pre  {x : D} {ds : List D} : S_sort_terms.pre (x :: ds) = p_S_sort_terms (x :: ds) := rfl
theorem S_sort_terms_post  {x d : D} {ds : List D} : S_sort_terms.post (x :: ds) d = q_S_sort_terms (x :: ds) d := rfl
def b_is_word : WS := (wSeq (wIfS (wOr (wNot (wTest (wMt0 mIsalnum (wView 0)))) (wOr (wTest (wOp oNe (wView 0) (wMt0 mLower (wView 0)))) (wTest (wOp oGt (wFn fLen (wCons (wView 0) wNil)) (wC k_LONGEST)))))
  (wRet (wC (.bl false)))
  wNext)
  (wRet (wAndV (wMt0 mIsalpha (wOp oIx (wView 0) (wC (.int 0)))) (wAndV (wNotV (wMt mStarts (wView 0) (wCons (wC (.str [110, 101, 118, 101, 114])) wNil))) (wOp oNin (wView 0) (wC k_KEYWORDS))))))

def b_depth_of : WS := (wSeq (wIfS (wTest (wIsI .int (wView 0)))
  (wRet (wC (.int 0)))
  wNext)
  (wRet (wMt mCount (wView 0) (wCons (wC (.str [40])) wNil))))

def b_bottom_of : WS := (wSeq (wIfS (wTest (wIsI .int (wView 0)))
  (wRet (wVar 0))
  wNext)
  (wRet (wSlice (wView 0) (woS (wOp oAdd (wMt mRfind (wView 0) (wCons (wC (.str [40])) wNil)) (wC (.int 1)))) (woS (wOp oSub (wFn fLen (wCons (wView 0) wNil)) (wCall S_depth_of (wCons (wView 0) wNil)))))))

def b_variable_of : WS := (wSeq (wAsg (gNm 1) (wCall S_bottom_of (wCons (wVar 0) wNil)))
  (wSeq (wIfS (wOr (wTest (wIsI .int (wView 1))) (wNot (wTest (wMt0 mIsupper (wSlice (wView 1) woN (woS (wC (.int 1))))))))
  (wRet (wC .non))
  wNext)
  (wRet (wVar 1))))

def b_variables_in_t25 : WS := (wIfS (wTest (wNotN (wView 3)))
  (wSetIx 1 (wVar 3) (wC (.bl true)))
  wNext)

def b_variables_in_l23 : WS := (wSeq (wAsg (gNm 3) (wCall S_variable_of (wCons (wVar 2) wNil)))
  b_variables_in_t25)

def b_variables_in_t27 : WS := (wRet (wFn fList (wCons (wView 1) wNil)))

def b_variables_in_t23 : WS := (wSeq (wFor (wBoIt 0) (gNm 2)
  b_variables_in_l23)
  b_variables_in_t27)

def b_variables_in : WS := (wSeq (wOwnAsg 1 wNewD)
  b_variables_in_t23)

def b_is_ground_t37 : WS := (wRet (wFn fAll (wCons (wComp [4] (wOwIt 1) (gNm 4) wYes (wCall S_is_word (wCons (wView 4) wNil))) wNil)))

def b_is_ground_t36 : WS := (wSeq (wAppend 1 (wSlice (wView 3) woN (woS (wOp oSub (wFn fLen (wCons (wView 3) wNil)) (wFn fLen (wCons (wView 2) wNil))))))
  b_is_ground_t37)

def b_is_ground_t34 : WS := (wSeq (wIfS (wNot (wTest (wMt mEnds (wView 3) (wCons (wView 2) wNil))))
  (wRet (wC (.bl false)))
  wNext)
  b_is_ground_t36)

def b_is_ground_t33 : WS := (wSeq (wPopTo 3 1)
  b_is_ground_t34)

def b_is_ground_t32 : WS := (wSeq (wAsg (gNm 2) (wOp oMul (wC (.str [41])) (wOp oSub (wFn fLen (wCons (wView 1) wNil)) (wC (.int 1)))))
  b_is_ground_t33)

def b_is_ground_t31 : WS := (wSeq (wOwnAsg 1 (wMt mSplit (wView 0) (wCons (wC (.str [40])) wNil)))
  b_is_ground_t32)

def b_is_ground : WS := (wSeq (wIfS (wTest (wIsI .int (wView 0)))
  (wRet (wOp oGe (wView 0) (wC (.int 0))))
  wNext)
  b_is_ground_t31)

def b_term_key : WS := (wRet (wTup (wCons (wIsI .str (wView 0)) (wCons (wVar 0) wNil))))

def b_sort_terms : WS := (wRet (wSortK S_term_key (wView 0)))

theorem rfind_none {c : Nat} {t : List Nat} (h : c ∉ t) : rfindC c t = -1 := by
  unfold rfindC
  have : t.reverse.findIdx? (· == c) = none := by
    rw [List.findIdx?_eq_none_iff]
    intro x hx
    have hx : x ∈ t := List.mem_reverse.mp hx
    exact beq_eq_false_iff_ne.mpr fun e => h (e ▸ hx)
  rw [this]
theorem rfind_end {c : Nat} {a b : List Nat} (h : c ∉ b) : rfindC c (a ++ [c] ++ b) = a.length := by
  unfold rfindC
  have n : b.reverse.findIdx? (· == c) = none := by
    rw [List.findIdx?_eq_none_iff]
    intro x hx
    have hx : x ∈ b := List.mem_reverse.mp hx
    exact beq_eq_false_iff_ne.mpr fun e => h (e ▸ hx)
  have : (a ++ [c] ++ b).reverse.findIdx? (· == c) = some b.length := by
    rw [List.reverse_append, List.reverse_append, List.reverse_singleton, List.findIdx?_append, n, List.singleton_append, List.findIdx?_cons]
    simp
  rw [this]
  simp only [List.length_append, List.length_singleton]
  omega
/-- texts without brackets -/
def nb (s : List Nat) : Prop := ∀ c ∈ s, c ≠ 40 ∧ c ≠ 41
theorem pre_app (a b : List (List Nat)) : pre (a ++ b) = pre a ++ pre b := by
  unfold pre
  rw [List.map_append, List.flatten_append]
theorem tyS_app (a b : List (List Nat)) (s : List Nat) : tyS (a ++ b) s = tyS a (tyS b s) := by
  unfold tyS
  rw [pre_app, List.length_append, Nat.add_comm, ← List.replicate_append_replicate]
  simp only [List.append_assoc]
theorem tyS_nil (s : List Nat) : tyS [] s = s := by unfold tyS; simp [pre]
def okMs (ms : List (List Nat)) : Prop := ∀ m ∈ ms, nb m
theorem count_nb {s : List Nat} (h : nb s) : s.count 40 = 0 := List.count_eq_zero.mpr fun e => (h 40 e).1 rfl
theorem count_pre : ∀ {ms : List (List Nat)}, okMs ms → (pre ms).count 40 = ms.length
  | [], _ => rfl
  | m :: ms, h => by
    have e : pre (m :: ms) = m ++ [40] ++ pre ms := rfl
    rw [e, List.count_append, List.count_append, count_pre fun x hx => h x (List.mem_cons_of_mem _ hx), count_nb (h m (List.mem_cons_self ..)), List.length_cons]
    show 0 + 1 + _ = _
    omega
theorem count_ty {ms : List (List Nat)} {s : List Nat} (h : okMs ms) (hs : nb s) : (tyS ms s).count 40 = ms.length := by
  unfold tyS
  rw [List.count_append, List.count_append, count_pre h, count_nb hs, List.count_replicate]
  simp
theorem no40 {s : List Nat} (hs : nb s) (n : Nat) : 40 ∉ s ++ List.replicate n 41 := fun e => by
  rcases List.mem_append.mp e with e | e
  · exact (hs 40 e).1 rfl
  · rw [List.mem_replicate] at e
    exact absurd e.2 (by decide)
theorem rfind_ty {ms : List (List Nat)} {s : List Nat} (h : okMs ms) (hs : nb s) : rfindC 40 (tyS ms s) + 1 = (pre ms).length := by
  rcases List.eq_nil_or_concat ms with rfl | ⟨i, m, rfl⟩
  · have e : tyS [] s = s ++ List.replicate 0 41 := by unfold tyS; simp [pre]
    rw [e, rfind_none (no40 hs 0)]
    rfl
  · rw [List.concat_eq_append] at *
    have e : tyS (i ++ [m]) s = (pre i ++ m) ++ [40] ++ (s ++ List.replicate (i ++ [m]).length 41) := by
      unfold tyS
      rw [pre_app]
      simp [pre]
    rw [e, rfind_end (no40 hs _), pre_app]
    simp [pre]
    omega
theorem ty_len {ms : List (List Nat)} {s : List Nat} : (tyS ms s).length = (pre ms).length + s.length + ms.length := by
  unfold tyS
  rw [List.length_append, List.length_append, List.length_replicate]
theorem ty_mid {ms : List (List Nat)} {s : List Nat} : cutD (tyS ms s) (some ((pre ms).length : Nat)) (some (((tyS ms s).length : Int) - (ms.length : Nat))) = s := by
  have l := ty_len (ms := ms) (s := s)
  have e : (((tyS ms s).length : Int) - (ms.length : Nat)) = (((pre ms).length + s.length : Nat) : Int) := by omega
  rw [e, cut_mid (by omega) (by omega)]
  unfold tyS
  rw [List.append_assoc, List.drop_left]
  rw [Nat.add_sub_cancel_left, List.take_left]
theorem bot_ty {ms : List (List Nat)} {s : List Nat} (h : okMs ms) (hs : nb s) : botS (tyS ms s) = s := by
  unfold botS
  rw [rfind_ty h hs, count_ty h hs, ty_mid]
theorem head_ty {ms : List (List Nat)} {s : List Nat} (h : okMs ms) (hs : nb s) : headS (tyS ms s) = pre ms := by
  unfold headS
  rw [rfind_ty h hs, cut_take (by omega), Int.toNat_natCast]
  unfold tyS
  rw [List.append_assoc, List.take_left]

/-! ### the conditions -/
theorem okT_s {s : List Nat} (h : okS s) : okT (.str s) := .inr ⟨s, rfl, h⟩
theorem okT_i {i : Int} : okT (.int i) := .inl ⟨i, rfl⟩
theorem okS_cut {s : List Nat} {a b : Option Int} (h : okS s) : okS (cutD s a b) := ⟨Nat.le_trans len_cut h.1, asc_cut h.2⟩
theorem lod_not {c : Nat} (h : upC c = true ∨ loC c = true ∨ diC c = true) : lod c = true ↔ upC c = false := by
  unfold lod loC diC upC at *
  simp only [Bool.or_eq_true, Bool.and_eq_true, decide_eq_true_eq, Bool.and_eq_false_iff, decide_eq_false_iff_not] at *
  omega
theorem low_id {s : List Nat} : s.map lowC = s ↔ s.all (fun c => !upC c) = true := by
  induction s with
  | nil => simp
  | cons c s ih =>
    rw [List.map_cons, List.all_cons, Bool.and_eq_true, ← ih, List.cons.injEq]
    refine and_congr ?_ Iff.rfl
    unfold lowC
    cases h : upC c with
    | true => simp
    | false => simp
theorem kw_any {s : List Nat} : (kwD.any fun z => z.eqv (.str s)) = decide (s ∈ KW) := by
  unfold kwD
  rw [List.any_map, Bool.eq_iff_iff, List.any_eq_true, decide_eq_true_eq]
  constructor
  · rintro ⟨x, hx, e⟩
    have e : (x == s) = true := by rw [← eqv_str]; exact e
    rw [← beq_iff_eq.mp e]; exact hx
  · intro h
    exact ⟨s, h, by show D.eqv (.str s) (.str s) = true; rw [eqv_str]; exact beq_self_eq_true s⟩
theorem kw_scal : kwD.all D.scal = true := rfl
theorem wd_iff {s : List Nat} : wd s = true ↔ s.length ≤ 8 ∧ (∀ c ∈ s, lod c = true) ∧ hdL s = true ∧ nv.isPrefixOf s = false ∧ s ∉ KW := by
  unfold wd
  simp only [Bool.and_eq_true, decide_eq_true_eq, List.all_eq_true, Bool.not_eq_true', decide_eq_false_iff_not]
theorem vc_is_word : ∀ ds : List D, ds.length = 1 → S_is_word.pre ds → b_is_word { nx := fun _ => S_is_word.post ds .non, rt := S_is_word.post ds } (startD [false] ds 0) := by
  intro ds hl h
  match ds, h with
  | [x], h =>
  obtain ⟨s, rfl⟩ := kStr_is (show kStr x _ from h)
  obtain ⟨h1, h2⟩ : okS s := h
  have post : S_is_word.post [.str s] (.bl (wd s)) := rfl
  generalize S_is_word.post [.str s] = Q at post
  simp only [b_is_word, p_S_is_word, q_S_is_word, S_is_word_pre, S_is_word_post, k_LONGEST, k_KEYWORDS, r_wVar, r_wView, r_wOwn, r_wC, r_wFlat, r_wNewD, r_wNewT, r_wOp, r_wNeg, r_wIsN, r_wNotN, r_wIsB, r_wTest, r_wAnd, r_wOr, r_wNot, r_wAndV, r_wOrV, r_wNotV, r_wIf, r_wChain, r_wNil, r_wCons, r_wTup, r_wLst, r_wCall, r_wFn, r_wIsI, r_woN, r_woS, r_wSlice, r_wMt, r_wMt0, r_wRange1, r_wRange2, r_wItems, r_wBoIt, r_wOwIt, r_wKeys, r_gNm, r_gsNil, r_gsCons, r_gTp, r_wYes, r_wComp, r_wDComp, r_wDCompT, r_wNext, r_wSeq, r_wBreak, r_wCont, r_wExpr, r_wRet, r_wRetN, r_wIfS, r_wAsg, r_wOwnAsg, r_wFrz, r_wAppend, r_wInsert, r_wExtend, r_wClear, r_wClearT, r_wPopT, r_wPopTo, r_wSetIx, r_wFor, r_wForOw, r_fLen, r_fAbs, r_fMin2, r_fMax2, r_fInt, r_fStr, r_fList, r_fTuple, r_fDict, r_fAll, r_fAny, r_mCount, r_mRfind, r_mFind, r_mStarts, r_mEnds, r_mSplit, r_mJoin, r_mIsupper, r_mIsalnum, r_mIsalpha, r_mIsdigit, r_mLower, r_wipe, r_wipe2, oAdd, oSub, oMul, oMod, oFdiv, oPow, oEq, oNe, oLt, oLe, oGt, oGe, oIn, oNin, oIx, inD, frz, setIx, dicIt, boIt, owIt, startD, cellVw, cellSh, cellOw, kInt, kStr, kBl, kLst, kDic, kTup, plain2, scal2, D.scal, D.flat, D.isNon, D.isBl, D.isTy, D.dat, D.key, celOf, List.replicate, List.getElem?_cons_zero, List.getElem?_cons_succ, List.set_cons_zero, List.set_cons_succ, Option.getD_some, forall_exists_index, and_imp, forall_eq, forall_eq_apply_imp_iff, forall_apply_eq_imp_iff, if_true, if_false, Bool.not_true, Bool.not_false, Bool.not_eq_true', Bool.true_and, Bool.and_true, Bool.false_and, Bool.and_false, Bool.false_eq_true, Bool.true_eq_false, ite_true, ite_false, reduceIte, true_and, and_true, false_or, or_false, true_or, or_true, atD0, atD1, atD2, Option.some.injEq, List.length_map, all_int, all_str, all_chr, all_bl, all_words, beq_iff_eq, Int.reduceLT, Int.reduceLE, Int.reduceEq, Int.reduceNeg, Int.reduceBEq, Int.reduceToNat, Int.reducePow, Nat.reduceAdd, Nat.reduceLT, Nat.reduceLeDiff, Bool.not_eq_eq_eq_not, decide_eq_true_eq, List.length_cons, List.length_nil, un, bin, tri, isTok, SZ, D.dic.injEq, D.dit.injEq, D.str.injEq, D.int.injEq, D.lst.injEq, D.bl.injEq, eqv_str, eqv_int, eqv_bl, eqv_is, eqv_si, eqv_sn, eqv_in, beq_self_eq_true, List.cons.injEq, exists_eq_left', forall_eq', exists_eq', exists_eq_left, exists_eq_right, Bool.and_self, Bool.or_self, Bool.or_true, Bool.or_false]
  have pf : ¬ wd s = true → Q (.bl false) := fun e => by rw [Bool.eq_false_iff.mpr e] at post; exact post
  refine ⟨h2, ite2 (fun c => pf fun w => ?_) fun c => ⟨⟨h2, by omega⟩, ite2 (fun c2 => pf fun w => ?_) fun c2 => ⟨by omega, ite2 (fun c3 => pf fun w => ?_) fun c3 => ⟨by omega, ?_⟩⟩⟩⟩
  · obtain ⟨w1, w2, w3, _, _⟩ := wd_iff.mp w
    cases s with
    | nil => cases w3
    | cons x r =>
      rw [show (x :: r).isEmpty = false from rfl, Bool.not_false, Bool.true_and, Bool.eq_false_iff] at c
      refine c (List.all_eq_true.mpr fun y hy => ?_)
      have := w2 y hy
      unfold lod at this
      rw [Bool.or_assoc, this, Bool.or_true]
  · obtain ⟨w1, w2, w3, _, _⟩ := wd_iff.mp w
    rw [beq_eq_false_iff_ne] at c2
    refine c2 (low_id.mpr (List.all_eq_true.mpr fun y hy => ?_)).symm
    have := w2 y hy
    have h := (lod_not (c := y) (by unfold lod at this; rw [Bool.or_eq_true] at this; exact .inr this)).mp this
    rw [h]; rfl
  · have := (wd_iff.mp w).1
    omega
  · have hall : ∀ y ∈ s, lod y = true := fun y hy => by
      have a1 := Bool.not_eq_false _ ▸ c
      rw [Bool.and_eq_true, List.all_eq_true] at a1
      have a2 := a1.2 y hy
      have b1 : List.map lowC s = s := by
        have : (s == List.map lowC s) = true := by simpa using c2
        exact (beq_iff_eq.mp this).symm
      have b2 := List.all_eq_true.mp (low_id.mp b1) y hy
      refine (lod_not ?_).mpr (by simpa using b2)
      simpa [or_assoc] using a2
    cases s with
    | nil => exact (c rfl).elim
    | cons x r =>
      refine ⟨x, atD0, by unfold asc at *; rw [List.all_cons, Bool.and_eq_true] at h2; rw [List.all_cons, h2.1]; rfl, ?_⟩
      have hx := hall x (List.mem_cons_self ..)
      have ux : upC x = false := (lod_not (by unfold lod at hx; rw [Bool.or_eq_true] at hx; exact .inr hx)).mp hx
      have e1 : (![x].isEmpty && [x].all fun c => upC c || loC c) = loC x := by
        show (true && ((upC x || loC x) && true)) = loC x
        rw [ux, Bool.false_or, Bool.and_true, Bool.true_and]
      rw [e1]
      refine ite2 (fun c5 => ite2 (fun c6 => ⟨kw_scal, ?_⟩) fun c6 => pf fun w => ?_) fun c5 => pf fun w => c5 (wd_iff.mp w).2.2.1
      · rw [kw_any]
        have : wd (x :: r) = !decide (x :: r ∈ KW) := by
          rw [Bool.eq_iff_iff, wd_iff]
          have c3 : (x :: r).length ≤ 8 := by omega
          simp only [Bool.not_eq_true', decide_eq_false_iff_not]
          exact ⟨fun h => h.2.2.2.2, fun h => ⟨c3, hall, c5, c6, h⟩⟩
        rw [← this]
        exact post
      · exact c6 (wd_iff.mp w).2.2.2.1
theorem vc_depth_of : ∀ ds : List D, ds.length = 1 → S_depth_of.pre ds → b_depth_of { nx := fun _ => S_depth_of.post ds .non, rt := S_depth_of.post ds } (startD [false] ds 0) := by
  intro ds hl h
  match ds, h with
  | [x], h =>
  change okT x at h
  rcases h with ⟨i, rfl⟩ | ⟨s, rfl, h1, h2⟩
  · simp only [b_depth_of, p_S_depth_of, q_S_depth_of, S_depth_of_pre, S_depth_of_post, r_wVar, r_wView, r_wOwn, r_wC, r_wFlat, r_wNewD, r_wNewT, r_wOp, r_wNeg, r_wIsN, r_wNotN, r_wIsB, r_wTest, r_wAnd, r_wOr, r_wNot, r_wAndV, r_wOrV, r_wNotV, r_wIf, r_wChain, r_wNil, r_wCons, r_wTup, r_wLst, r_wCall, r_wFn, r_wIsI, r_woN, r_woS, r_wSlice, r_wMt, r_wMt0, r_wRange1, r_wRange2, r_wItems, r_wBoIt, r_wOwIt, r_wKeys, r_gNm, r_gsNil, r_gsCons, r_gTp, r_wYes, r_wComp, r_wDComp, r_wDCompT, r_wNext, r_wSeq, r_wBreak, r_wCont, r_wExpr, r_wRet, r_wRetN, r_wIfS, r_wAsg, r_wOwnAsg, r_wFrz, r_wAppend, r_wInsert, r_wExtend, r_wClear, r_wClearT, r_wPopT, r_wPopTo, r_wSetIx, r_wFor, r_wForOw, r_fLen, r_fAbs, r_fMin2, r_fMax2, r_fInt, r_fStr, r_fList, r_fTuple, r_fDict, r_fAll, r_fAny, r_mCount, r_mRfind, r_mFind, r_mStarts, r_mEnds, r_mSplit, r_mJoin, r_mIsupper, r_mIsalnum, r_mIsalpha, r_mIsdigit, r_mLower, r_wipe, r_wipe2, oAdd, oSub, oMul, oMod, oFdiv, oPow, oEq, oNe, oLt, oLe, oGt, oGe, oIn, oNin, oIx, inD, frz, setIx, dicIt, boIt, owIt, startD, cellVw, cellSh, cellOw, kInt, kStr, kBl, kLst, kDic, kTup, plain2, scal2, D.scal, D.flat, D.isNon, D.isBl, D.isTy, D.dat, D.key, celOf, List.replicate, List.getElem?_cons_zero, List.getElem?_cons_succ, List.set_cons_zero, List.set_cons_succ, Option.getD_some, forall_exists_index, and_imp, forall_eq, forall_eq_apply_imp_iff, forall_apply_eq_imp_iff, if_true, if_false, Bool.not_true, Bool.not_false, Bool.not_eq_true', Bool.true_and, Bool.and_true, Bool.false_and, Bool.and_false, Bool.false_eq_true, Bool.true_eq_false, ite_true, ite_false, reduceIte, true_and, and_true, false_or, or_false, true_or, or_true, atD0, atD1, atD2, Option.some.injEq, List.length_map, all_int, all_str, all_chr, all_bl, all_words, beq_iff_eq, Int.reduceLT, Int.reduceLE, Int.reduceEq, Int.reduceNeg, Int.reduceBEq, Int.reduceToNat, Int.reducePow, Nat.reduceAdd, Nat.reduceLT, Nat.reduceLeDiff, Bool.not_eq_eq_eq_not, decide_eq_true_eq, List.length_cons, List.length_nil, un, bin, tri, isTok, SZ, D.dic.injEq, D.dit.injEq, D.str.injEq, D.int.injEq, D.lst.injEq, D.bl.injEq, eqv_str, eqv_int, eqv_bl, eqv_is, eqv_si, eqv_sn, eqv_in, beq_self_eq_true, List.cons.injEq, exists_eq_left', forall_eq', exists_eq', exists_eq_left, exists_eq_right, Bool.and_self, Bool.or_self, Bool.or_true, Bool.or_false]
    rfl
  · simp only [b_depth_of, p_S_depth_of, q_S_depth_of, S_depth_of_pre, S_depth_of_post, r_wVar, r_wView, r_wOwn, r_wC, r_wFlat, r_wNewD, r_wNewT, r_wOp, r_wNeg, r_wIsN, r_wNotN, r_wIsB, r_wTest, r_wAnd, r_wOr, r_wNot, r_wAndV, r_wOrV, r_wNotV, r_wIf, r_wChain, r_wNil, r_wCons, r_wTup, r_wLst, r_wCall, r_wFn, r_wIsI, r_woN, r_woS, r_wSlice, r_wMt, r_wMt0, r_wRange1, r_wRange2, r_wItems, r_wBoIt, r_wOwIt, r_wKeys, r_gNm, r_gsNil, r_gsCons, r_gTp, r_wYes, r_wComp, r_wDComp, r_wDCompT, r_wNext, r_wSeq, r_wBreak, r_wCont, r_wExpr, r_wRet, r_wRetN, r_wIfS, r_wAsg, r_wOwnAsg, r_wFrz, r_wAppend, r_wInsert, r_wExtend, r_wClear, r_wClearT, r_wPopT, r_wPopTo, r_wSetIx, r_wFor, r_wForOw, r_fLen, r_fAbs, r_fMin2, r_fMax2, r_fInt, r_fStr, r_fList, r_fTuple, r_fDict, r_fAll, r_fAny, r_mCount, r_mRfind, r_mFind, r_mStarts, r_mEnds, r_mSplit, r_mJoin, r_mIsupper, r_mIsalnum, r_mIsalpha, r_mIsdigit, r_mLower, r_wipe, r_wipe2, oAdd, oSub, oMul, oMod, oFdiv, oPow, oEq, oNe, oLt, oLe, oGt, oGe, oIn, oNin, oIx, inD, frz, setIx, dicIt, boIt, owIt, startD, cellVw, cellSh, cellOw, kInt, kStr, kBl, kLst, kDic, kTup, plain2, scal2, D.scal, D.flat, D.isNon, D.isBl, D.isTy, D.dat, D.key, celOf, List.replicate, List.getElem?_cons_zero, List.getElem?_cons_succ, List.set_cons_zero, List.set_cons_succ, Option.getD_some, forall_exists_index, and_imp, forall_eq, forall_eq_apply_imp_iff, forall_apply_eq_imp_iff, if_true, if_false, Bool.not_true, Bool.not_false, Bool.not_eq_true', Bool.true_and, Bool.and_true, Bool.false_and, Bool.and_false, Bool.false_eq_true, Bool.true_eq_false, ite_true, ite_false, reduceIte, true_and, and_true, false_or, or_false, true_or, or_true, atD0, atD1, atD2, Option.some.injEq, List.length_map, all_int, all_str, all_chr, all_bl, all_words, beq_iff_eq, Int.reduceLT, Int.reduceLE, Int.reduceEq, Int.reduceNeg, Int.reduceBEq, Int.reduceToNat, Int.reducePow, Nat.reduceAdd, Nat.reduceLT, Nat.reduceLeDiff, Bool.not_eq_eq_eq_not, decide_eq_true_eq, List.length_cons, List.length_nil, un, bin, tri, isTok, SZ, D.dic.injEq, D.dit.injEq, D.str.injEq, D.int.injEq, D.lst.injEq, D.bl.injEq, eqv_str, eqv_int, eqv_bl, eqv_is, eqv_si, eqv_sn, eqv_in, beq_self_eq_true, List.cons.injEq, exists_eq_left', forall_eq', exists_eq', exists_eq_left, exists_eq_right, Bool.and_self, Bool.or_self, Bool.or_true, Bool.or_false]
    rfl
theorem vc_bottom_of : ∀ ds : List D, ds.length = 1 → S_bottom_of.pre ds → b_bottom_of { nx := fun _ => S_bottom_of.post ds .non, rt := S_bottom_of.post ds } (startD [true] ds 0) := by
  intro ds hl h
  match ds, h with
  | [x], h =>
  change okT x at h
  rcases h with ⟨i, rfl⟩ | ⟨s, rfl, h1, h2⟩
  · simp only [b_bottom_of, p_S_bottom_of, q_S_bottom_of, S_bottom_of_pre, S_bottom_of_post, r_wVar, r_wView, r_wOwn, r_wC, r_wFlat, r_wNewD, r_wNewT, r_wOp, r_wNeg, r_wIsN, r_wNotN, r_wIsB, r_wTest, r_wAnd, r_wOr, r_wNot, r_wAndV, r_wOrV, r_wNotV, r_wIf, r_wChain, r_wNil, r_wCons, r_wTup, r_wLst, r_wCall, r_wFn, r_wIsI, r_woN, r_woS, r_wSlice, r_wMt, r_wMt0, r_wRange1, r_wRange2, r_wItems, r_wBoIt, r_wOwIt, r_wKeys, r_gNm, r_gsNil, r_gsCons, r_gTp, r_wYes, r_wComp, r_wDComp, r_wDCompT, r_wNext, r_wSeq, r_wBreak, r_wCont, r_wExpr, r_wRet, r_wRetN, r_wIfS, r_wAsg, r_wOwnAsg, r_wFrz, r_wAppend, r_wInsert, r_wExtend, r_wClear, r_wClearT, r_wPopT, r_wPopTo, r_wSetIx, r_wFor, r_wForOw, r_fLen, r_fAbs, r_fMin2, r_fMax2, r_fInt, r_fStr, r_fList, r_fTuple, r_fDict, r_fAll, r_fAny, r_mCount, r_mRfind, r_mFind, r_mStarts, r_mEnds, r_mSplit, r_mJoin, r_mIsupper, r_mIsalnum, r_mIsalpha, r_mIsdigit, r_mLower, r_wipe, r_wipe2, oAdd, oSub, oMul, oMod, oFdiv, oPow, oEq, oNe, oLt, oLe, oGt, oGe, oIn, oNin, oIx, inD, frz, setIx, dicIt, boIt, owIt, startD, cellVw, cellSh, cellOw, kInt, kStr, kBl, kLst, kDic, kTup, plain2, scal2, D.scal, D.flat, D.isNon, D.isBl, D.isTy, D.dat, D.key, celOf, List.replicate, List.getElem?_cons_zero, List.getElem?_cons_succ, List.set_cons_zero, List.set_cons_succ, Option.getD_some, forall_exists_index, and_imp, forall_eq, forall_eq_apply_imp_iff, forall_apply_eq_imp_iff, if_true, if_false, Bool.not_true, Bool.not_false, Bool.not_eq_true', Bool.true_and, Bool.and_true, Bool.false_and, Bool.and_false, Bool.false_eq_true, Bool.true_eq_false, ite_true, ite_false, reduceIte, true_and, and_true, false_or, or_false, true_or, or_true, atD0, atD1, atD2, Option.some.injEq, List.length_map, all_int, all_str, all_chr, all_bl, all_words, beq_iff_eq, Int.reduceLT, Int.reduceLE, Int.reduceEq, Int.reduceNeg, Int.reduceBEq, Int.reduceToNat, Int.reducePow, Nat.reduceAdd, Nat.reduceLT, Nat.reduceLeDiff, Bool.not_eq_eq_eq_not, decide_eq_true_eq, List.length_cons, List.length_nil, un, bin, tri, isTok, SZ, D.dic.injEq, D.dit.injEq, D.str.injEq, D.int.injEq, D.lst.injEq, D.bl.injEq, eqv_str, eqv_int, eqv_bl, eqv_is, eqv_si, eqv_sn, eqv_in, beq_self_eq_true, List.cons.injEq, exists_eq_left', forall_eq', exists_eq', exists_eq_left, exists_eq_right, Bool.and_self, Bool.or_self, Bool.or_true, Bool.or_false]
    rfl
  · simp only [b_bottom_of, p_S_bottom_of, q_S_bottom_of, S_bottom_of_pre, S_bottom_of_post, p_S_depth_of, q_S_depth_of, S_depth_of_pre, S_depth_of_post, r_wVar, r_wView, r_wOwn, r_wC, r_wFlat, r_wNewD, r_wNewT, r_wOp, r_wNeg, r_wIsN, r_wNotN, r_wIsB, r_wTest, r_wAnd, r_wOr, r_wNot, r_wAndV, r_wOrV, r_wNotV, r_wIf, r_wChain, r_wNil, r_wCons, r_wTup, r_wLst, r_wCall, r_wFn, r_wIsI, r_woN, r_woS, r_wSlice, r_wMt, r_wMt0, r_wRange1, r_wRange2, r_wItems, r_wBoIt, r_wOwIt, r_wKeys, r_gNm, r_gsNil, r_gsCons, r_gTp, r_wYes, r_wComp, r_wDComp, r_wDCompT, r_wNext, r_wSeq, r_wBreak, r_wCont, r_wExpr, r_wRet, r_wRetN, r_wIfS, r_wAsg, r_wOwnAsg, r_wFrz, r_wAppend, r_wInsert, r_wExtend, r_wClear, r_wClearT, r_wPopT, r_wPopTo, r_wSetIx, r_wFor, r_wForOw, r_fLen, r_fAbs, r_fMin2, r_fMax2, r_fInt, r_fStr, r_fList, r_fTuple, r_fDict, r_fAll, r_fAny, r_mCount, r_mRfind, r_mFind, r_mStarts, r_mEnds, r_mSplit, r_mJoin, r_mIsupper, r_mIsalnum, r_mIsalpha, r_mIsdigit, r_mLower, r_wipe, r_wipe2, oAdd, oSub, oMul, oMod, oFdiv, oPow, oEq, oNe, oLt, oLe, oGt, oGe, oIn, oNin, oIx, inD, frz, setIx, dicIt, boIt, owIt, startD, cellVw, cellSh, cellOw, kInt, kStr, kBl, kLst, kDic, kTup, plain2, scal2, D.scal, D.flat, D.isNon, D.isBl, D.isTy, D.dat, D.key, celOf, List.replicate, List.getElem?_cons_zero, List.getElem?_cons_succ, List.set_cons_zero, List.set_cons_succ, Option.getD_some, forall_exists_index, and_imp, forall_eq, forall_eq_apply_imp_iff, forall_apply_eq_imp_iff, if_true, if_false, Bool.not_true, Bool.not_false, Bool.not_eq_true', Bool.true_and, Bool.and_true, Bool.false_and, Bool.and_false, Bool.false_eq_true, Bool.true_eq_false, ite_true, ite_false, reduceIte, true_and, and_true, false_or, or_false, true_or, or_true, atD0, atD1, atD2, Option.some.injEq, List.length_map, all_int, all_str, all_chr, all_bl, all_words, beq_iff_eq, Int.reduceLT, Int.reduceLE, Int.reduceEq, Int.reduceNeg, Int.reduceBEq, Int.reduceToNat, Int.reducePow, Nat.reduceAdd, Nat.reduceLT, Nat.reduceLeDiff, Bool.not_eq_eq_eq_not, decide_eq_true_eq, List.length_cons, List.length_nil, un, bin, tri, isTok, SZ, D.dic.injEq, D.dit.injEq, D.str.injEq, D.int.injEq, D.lst.injEq, D.bl.injEq, eqv_str, eqv_int, eqv_bl, eqv_is, eqv_si, eqv_sn, eqv_in, beq_self_eq_true, List.cons.injEq, exists_eq_left', forall_eq', exists_eq', exists_eq_left, exists_eq_right, Bool.and_self, Bool.or_self, Bool.or_true, Bool.or_false]
    exact ⟨by omega, okT_s ⟨h1, h2⟩, by omega, rfl⟩
theorem varX_cases {x : D} : varX x = .non ∨ ∃ n, varX x = .str n := by
  cases x with
  | str s =>
    show (if upS (cutD (botS s) none (some 1)) = true then D.str (botS s) else .non) = .non ∨ ∃ n, (if upS (cutD (botS s) none (some 1)) = true then D.str (botS s) else .non) = .str n
    by_cases c : upS (cutD (botS s) none (some 1)) = true
    · rw [if_pos c]; exact .inr ⟨_, rfl⟩
    · rw [if_neg c]; exact .inl rfl
  | _ => exact .inl rfl
theorem vc_variable_of : ∀ ds : List D, ds.length = 1 → S_variable_of.pre ds → b_variable_of { nx := fun _ => S_variable_of.post ds .non, rt := S_variable_of.post ds } (startD [true] ds 1) := by
  intro ds hl h
  match ds, h with
  | [x], h =>
  change okT x at h
  rcases h with ⟨i, rfl⟩ | ⟨s, rfl, h1, h2⟩
  · simp only [b_variable_of, p_S_variable_of, q_S_variable_of, S_variable_of_pre, S_variable_of_post, p_S_bottom_of, q_S_bottom_of, S_bottom_of_pre, S_bottom_of_post, botD, r_wVar, r_wView, r_wOwn, r_wC, r_wFlat, r_wNewD, r_wNewT, r_wOp, r_wNeg, r_wIsN, r_wNotN, r_wIsB, r_wTest, r_wAnd, r_wOr, r_wNot, r_wAndV, r_wOrV, r_wNotV, r_wIf, r_wChain, r_wNil, r_wCons, r_wTup, r_wLst, r_wCall, r_wFn, r_wIsI, r_woN, r_woS, r_wSlice, r_wMt, r_wMt0, r_wRange1, r_wRange2, r_wItems, r_wBoIt, r_wOwIt, r_wKeys, r_gNm, r_gsNil, r_gsCons, r_gTp, r_wYes, r_wComp, r_wDComp, r_wDCompT, r_wNext, r_wSeq, r_wBreak, r_wCont, r_wExpr, r_wRet, r_wRetN, r_wIfS, r_wAsg, r_wOwnAsg, r_wFrz, r_wAppend, r_wInsert, r_wExtend, r_wClear, r_wClearT, r_wPopT, r_wPopTo, r_wSetIx, r_wFor, r_wForOw, r_fLen, r_fAbs, r_fMin2, r_fMax2, r_fInt, r_fStr, r_fList, r_fTuple, r_fDict, r_fAll, r_fAny, r_mCount, r_mRfind, r_mFind, r_mStarts, r_mEnds, r_mSplit, r_mJoin, r_mIsupper, r_mIsalnum, r_mIsalpha, r_mIsdigit, r_mLower, r_wipe, r_wipe2, oAdd, oSub, oMul, oMod, oFdiv, oPow, oEq, oNe, oLt, oLe, oGt, oGe, oIn, oNin, oIx, inD, frz, setIx, dicIt, boIt, owIt, startD, cellVw, cellSh, cellOw, kInt, kStr, kBl, kLst, kDic, kTup, plain2, scal2, D.scal, D.flat, D.isNon, D.isBl, D.isTy, D.dat, D.key, celOf, List.replicate, List.getElem?_cons_zero, List.getElem?_cons_succ, List.set_cons_zero, List.set_cons_succ, Option.getD_some, forall_exists_index, and_imp, forall_eq, forall_eq_apply_imp_iff, forall_apply_eq_imp_iff, if_true, if_false, Bool.not_true, Bool.not_false, Bool.not_eq_true', Bool.true_and, Bool.and_true, Bool.false_and, Bool.and_false, Bool.false_eq_true, Bool.true_eq_false, ite_true, ite_false, reduceIte, true_and, and_true, false_or, or_false, true_or, or_true, atD0, atD1, atD2, Option.some.injEq, List.length_map, all_int, all_str, all_chr, all_bl, all_words, beq_iff_eq, Int.reduceLT, Int.reduceLE, Int.reduceEq, Int.reduceNeg, Int.reduceBEq, Int.reduceToNat, Int.reducePow, Nat.reduceAdd, Nat.reduceLT, Nat.reduceLeDiff, Bool.not_eq_eq_eq_not, decide_eq_true_eq, List.length_cons, List.length_nil, un, bin, tri, isTok, SZ, D.dic.injEq, D.dit.injEq, D.str.injEq, D.int.injEq, D.lst.injEq, D.bl.injEq, eqv_str, eqv_int, eqv_bl, eqv_is, eqv_si, eqv_sn, eqv_in, beq_self_eq_true, List.cons.injEq, exists_eq_left', forall_eq', exists_eq', exists_eq_left, exists_eq_right, Bool.and_self, Bool.or_self, Bool.or_true, Bool.or_false]
    exact ⟨okT_i, rfl⟩
  · simp only [b_variable_of, p_S_variable_of, q_S_variable_of, S_variable_of_pre, S_variable_of_post, p_S_bottom_of, q_S_bottom_of, S_bottom_of_pre, S_bottom_of_post, botD, r_wVar, r_wView, r_wOwn, r_wC, r_wFlat, r_wNewD, r_wNewT, r_wOp, r_wNeg, r_wIsN, r_wNotN, r_wIsB, r_wTest, r_wAnd, r_wOr, r_wNot, r_wAndV, r_wOrV, r_wNotV, r_wIf, r_wChain, r_wNil, r_wCons, r_wTup, r_wLst, r_wCall, r_wFn, r_wIsI, r_woN, r_woS, r_wSlice, r_wMt, r_wMt0, r_wRange1, r_wRange2, r_wItems, r_wBoIt, r_wOwIt, r_wKeys, r_gNm, r_gsNil, r_gsCons, r_gTp, r_wYes, r_wComp, r_wDComp, r_wDCompT, r_wNext, r_wSeq, r_wBreak, r_wCont, r_wExpr, r_wRet, r_wRetN, r_wIfS, r_wAsg, r_wOwnAsg, r_wFrz, r_wAppend, r_wInsert, r_wExtend, r_wClear, r_wClearT, r_wPopT, r_wPopTo, r_wSetIx, r_wFor, r_wForOw, r_fLen, r_fAbs, r_fMin2, r_fMax2, r_fInt, r_fStr, r_fList, r_fTuple, r_fDict, r_fAll, r_fAny, r_mCount, r_mRfind, r_mFind, r_mStarts, r_mEnds, r_mSplit, r_mJoin, r_mIsupper, r_mIsalnum, r_mIsalpha, r_mIsdigit, r_mLower, r_wipe, r_wipe2, oAdd, oSub, oMul, oMod, oFdiv, oPow, oEq, oNe, oLt, oLe, oGt, oGe, oIn, oNin, oIx, inD, frz, setIx, dicIt, boIt, owIt, startD, cellVw, cellSh, cellOw, kInt, kStr, kBl, kLst, kDic, kTup, plain2, scal2, D.scal, D.flat, D.isNon, D.isBl, D.isTy, D.dat, D.key, celOf, List.replicate, List.getElem?_cons_zero, List.getElem?_cons_succ, List.set_cons_zero, List.set_cons_succ, Option.getD_some, forall_exists_index, and_imp, forall_eq, forall_eq_apply_imp_iff, forall_apply_eq_imp_iff, if_true, if_false, Bool.not_true, Bool.not_false, Bool.not_eq_true', Bool.true_and, Bool.and_true, Bool.false_and, Bool.and_false, Bool.false_eq_true, Bool.true_eq_false, ite_true, ite_false, reduceIte, true_and, and_true, false_or, or_false, true_or, or_true, atD0, atD1, atD2, Option.some.injEq, List.length_map, all_int, all_str, all_chr, all_bl, all_words, beq_iff_eq, Int.reduceLT, Int.reduceLE, Int.reduceEq, Int.reduceNeg, Int.reduceBEq, Int.reduceToNat, Int.reducePow, Nat.reduceAdd, Nat.reduceLT, Nat.reduceLeDiff, Bool.not_eq_eq_eq_not, decide_eq_true_eq, List.length_cons, List.length_nil, un, bin, tri, isTok, SZ, D.dic.injEq, D.dit.injEq, D.str.injEq, D.int.injEq, D.lst.injEq, D.bl.injEq, eqv_str, eqv_int, eqv_bl, eqv_is, eqv_si, eqv_sn, eqv_in, beq_self_eq_true, List.cons.injEq, exists_eq_left', forall_eq', exists_eq', exists_eq_left, exists_eq_right, Bool.and_self, Bool.or_self, Bool.or_true, Bool.or_false]
    have l : (botS s).length ≤ s.length := len_cut
    refine ⟨okT_s ⟨h1, h2⟩, by omega, asc_cut (asc_cut h2), ?_⟩
    have e : varX (.str s) = if upS (cutD (botS s) none (some 1)) = true then .str (botS s) else .non := rfl
    rw [e]
    by_cases c : upS (cutD (botS s) none (some 1)) = true
    · have c' := c
      unfold upS at c'
      rw [if_neg (by rw [c']; decide), if_pos c]
    · have c' := c
      unfold upS at c'
      rw [if_pos (by simpa using c'), if_neg c]
theorem kSeq_is {x : D} {f : List D → Prop} (h : kSeq x f) : ∃ xs, f xs ∧ (x = .lst xs ∨ x = .tup xs) := by
  cases x <;> first | exact ⟨_, h, .inl rfl⟩ | exact ⟨_, h, .inr rfl⟩ | exact (h : False).elim
theorem vc_term_key : ∀ ds : List D, ds.length = 1 → S_term_key.pre ds → b_term_key { nx := fun _ => S_term_key.post ds .non, rt := S_term_key.post ds } (startD [true] ds 0) := by
  intro ds hl h
  match ds, h with
  | [x], h =>
  have h : sca x := h
  cases x with
  | int i => simp only [b_term_key, r_wVar, r_wView, r_wOwn, r_wC, r_wFlat, r_wNewD, r_wNewT, r_wOp, r_wNeg, r_wIsN, r_wNotN, r_wIsB, r_wTest, r_wAnd, r_wOr, r_wNot, r_wAndV, r_wOrV, r_wNotV, r_wIf, r_wChain, r_wNil, r_wCons, r_wTup, r_wLst, r_wCall, r_wFn, r_wIsI, r_woN, r_woS, r_wSlice, r_wMt, r_wMt0, r_wRange1, r_wRange2, r_wItems, r_wBoIt, r_wOwIt, r_wKeys, r_gNm, r_gsNil, r_gsCons, r_gTp, r_wYes, r_wComp, r_wDComp, r_wDCompT, r_wNext, r_wSeq, r_wBreak, r_wCont, r_wExpr, r_wRet, r_wRetN, r_wIfS, r_wAsg, r_wOwnAsg, r_wFrz, r_wAppend, r_wInsert, r_wExtend, r_wClear, r_wClearT, r_wPopT, r_wPopTo, r_wSetIx, r_wFor, r_wForOw, r_fLen, r_fAbs, r_fMin2, r_fMax2, r_fInt, r_fStr, r_fList, r_fTuple, r_fDict, r_fAll, r_fAny, r_mCount, r_mRfind, r_mFind, r_mStarts, r_mEnds, r_mSplit, r_mJoin, r_mIsupper, r_mIsalnum, r_mIsalpha, r_mIsdigit, r_mLower, r_wipe, r_wipe2, oAdd, oSub, oMul, oMod, oFdiv, oPow, oEq, oNe, oLt, oLe, oGt, oGe, oIn, oNin, oIx, inD, frz, setIx, dicIt, boIt, owIt, startD, cellVw, cellSh, cellOw, kInt, kStr, kBl, kLst, kDic, kTup, plain2, scal2, D.scal, D.flat, D.isNon, D.isBl, D.isTy, D.dat, D.key, celOf, List.replicate, List.getElem?_cons_zero, List.getElem?_cons_succ, List.set_cons_zero, List.set_cons_succ, Option.getD_some, forall_exists_index, and_imp, forall_eq, forall_eq_apply_imp_iff, forall_apply_eq_imp_iff, if_true, if_false, Bool.not_true, Bool.not_false, Bool.not_eq_true', Bool.true_and, Bool.and_true, Bool.false_and, Bool.and_false, Bool.false_eq_true, Bool.true_eq_false, ite_true, ite_false, reduceIte, true_and, and_true, false_or, or_false, true_or, or_true, atD0, atD1, atD2, Option.some.injEq, List.length_map, all_int, all_str, all_chr, all_bl, all_words, beq_iff_eq, Int.reduceLT, Int.reduceLE, Int.reduceEq, Int.reduceNeg, Int.reduceBEq, Int.reduceToNat, Int.reducePow, Nat.reduceAdd, Nat.reduceLT, Nat.reduceLeDiff, Bool.not_eq_eq_eq_not, decide_eq_true_eq, List.length_cons, List.length_nil, un, bin, tri, isTok, SZ, D.dic.injEq, D.dit.injEq, D.str.injEq, D.int.injEq, D.lst.injEq, D.bl.injEq, eqv_str, eqv_int, eqv_bl, eqv_is, eqv_si, eqv_sn, eqv_in, beq_self_eq_true, List.cons.injEq, exists_eq_left', forall_eq', exists_eq', exists_eq_left, exists_eq_right, Bool.and_self, Bool.or_self, Bool.or_true, Bool.or_false]; rfl
  | str s => simp only [b_term_key, r_wVar, r_wView, r_wOwn, r_wC, r_wFlat, r_wNewD, r_wNewT, r_wOp, r_wNeg, r_wIsN, r_wNotN, r_wIsB, r_wTest, r_wAnd, r_wOr, r_wNot, r_wAndV, r_wOrV, r_wNotV, r_wIf, r_wChain, r_wNil, r_wCons, r_wTup, r_wLst, r_wCall, r_wFn, r_wIsI, r_woN, r_woS, r_wSlice, r_wMt, r_wMt0, r_wRange1, r_wRange2, r_wItems, r_wBoIt, r_wOwIt, r_wKeys, r_gNm, r_gsNil, r_gsCons, r_gTp, r_wYes, r_wComp, r_wDComp, r_wDCompT, r_wNext, r_wSeq, r_wBreak, r_wCont, r_wExpr, r_wRet, r_wRetN, r_wIfS, r_wAsg, r_wOwnAsg, r_wFrz, r_wAppend, r_wInsert, r_wExtend, r_wClear, r_wClearT, r_wPopT, r_wPopTo, r_wSetIx, r_wFor, r_wForOw, r_fLen, r_fAbs, r_fMin2, r_fMax2, r_fInt, r_fStr, r_fList, r_fTuple, r_fDict, r_fAll, r_fAny, r_mCount, r_mRfind, r_mFind, r_mStarts, r_mEnds, r_mSplit, r_mJoin, r_mIsupper, r_mIsalnum, r_mIsalpha, r_mIsdigit, r_mLower, r_wipe, r_wipe2, oAdd, oSub, oMul, oMod, oFdiv, oPow, oEq, oNe, oLt, oLe, oGt, oGe, oIn, oNin, oIx, inD, frz, setIx, dicIt, boIt, owIt, startD, cellVw, cellSh, cellOw, kInt, kStr, kBl, kLst, kDic, kTup, plain2, scal2, D.scal, D.flat, D.isNon, D.isBl, D.isTy, D.dat, D.key, celOf, List.replicate, List.getElem?_cons_zero, List.getElem?_cons_succ, List.set_cons_zero, List.set_cons_succ, Option.getD_some, forall_exists_index, and_imp, forall_eq, forall_eq_apply_imp_iff, forall_apply_eq_imp_iff, if_true, if_false, Bool.not_true, Bool.not_false, Bool.not_eq_true', Bool.true_and, Bool.and_true, Bool.false_and, Bool.and_false, Bool.false_eq_true, Bool.true_eq_false, ite_true, ite_false, reduceIte, true_and, and_true, false_or, or_false, true_or, or_true, atD0, atD1, atD2, Option.some.injEq, List.length_map, all_int, all_str, all_chr, all_bl, all_words, beq_iff_eq, Int.reduceLT, Int.reduceLE, Int.reduceEq, Int.reduceNeg, Int.reduceBEq, Int.reduceToNat, Int.reducePow, Nat.reduceAdd, Nat.reduceLT, Nat.reduceLeDiff, Bool.not_eq_eq_eq_not, decide_eq_true_eq, List.length_cons, List.length_nil, un, bin, tri, isTok, SZ, D.dic.injEq, D.dit.injEq, D.str.injEq, D.int.injEq, D.lst.injEq, D.bl.injEq, eqv_str, eqv_int, eqv_bl, eqv_is, eqv_si, eqv_sn, eqv_in, beq_self_eq_true, List.cons.injEq, exists_eq_left', forall_eq', exists_eq', exists_eq_left, exists_eq_right, Bool.and_self, Bool.or_self, Bool.or_true, Bool.or_false]; rfl
  | _ => exact h.elim
theorem vc_sort_terms : ∀ ds : List D, ds.length = 1 → S_sort_terms.pre ds → b_sort_terms { nx := fun _ => S_sort_terms.post ds .non, rt := S_sort_terms.post ds } (startD [false] ds 0) := by
  intro ds hl h
  match ds, h with
  | [x], h =>
  obtain ⟨xs, hx, e⟩ := kSeq_is (show kSeq x _ from h)
  have kk : ∀ y ∈ xs, S_term_key.pre [y] ∧ (∀ d, S_term_key.post [y] d → d = kkD (keyOf y)) ∧ okK (keyOf y) := fun y hy => by
    refine ⟨hx y hy, fun d h => h, ?_⟩
    have := hx y hy
    cases y <;> first | exact (this : False).elim | rfl
  rcases e with rfl | rfl
  · simp only [b_sort_terms, r_wSortK, itemsK, r_wVar, r_wView, r_wOwn, r_wC, r_wFlat, r_wNewD, r_wNewT, r_wOp, r_wNeg, r_wIsN, r_wNotN, r_wIsB, r_wTest, r_wAnd, r_wOr, r_wNot, r_wAndV, r_wOrV, r_wNotV, r_wIf, r_wChain, r_wNil, r_wCons, r_wTup, r_wLst, r_wCall, r_wFn, r_wIsI, r_woN, r_woS, r_wSlice, r_wMt, r_wMt0, r_wRange1, r_wRange2, r_wItems, r_wBoIt, r_wOwIt, r_wKeys, r_gNm, r_gsNil, r_gsCons, r_gTp, r_wYes, r_wComp, r_wDComp, r_wDCompT, r_wNext, r_wSeq, r_wBreak, r_wCont, r_wExpr, r_wRet, r_wRetN, r_wIfS, r_wAsg, r_wOwnAsg, r_wFrz, r_wAppend, r_wInsert, r_wExtend, r_wClear, r_wClearT, r_wPopT, r_wPopTo, r_wSetIx, r_wFor, r_wForOw, r_fLen, r_fAbs, r_fMin2, r_fMax2, r_fInt, r_fStr, r_fList, r_fTuple, r_fDict, r_fAll, r_fAny, r_mCount, r_mRfind, r_mFind, r_mStarts, r_mEnds, r_mSplit, r_mJoin, r_mIsupper, r_mIsalnum, r_mIsalpha, r_mIsdigit, r_mLower, r_wipe, r_wipe2, oAdd, oSub, oMul, oMod, oFdiv, oPow, oEq, oNe, oLt, oLe, oGt, oGe, oIn, oNin, oIx, inD, frz, setIx, dicIt, boIt, owIt, startD, cellVw, cellSh, cellOw, kInt, kStr, kBl, kLst, kDic, kTup, plain2, scal2, D.scal, D.flat, D.isNon, D.isBl, D.isTy, D.dat, D.key, celOf, List.replicate, List.getElem?_cons_zero, List.getElem?_cons_succ, List.set_cons_zero, List.set_cons_succ, Option.getD_some, forall_exists_index, and_imp, forall_eq, forall_eq_apply_imp_iff, forall_apply_eq_imp_iff, if_true, if_false, Bool.not_true, Bool.not_false, Bool.not_eq_true', Bool.true_and, Bool.and_true, Bool.false_and, Bool.and_false, Bool.false_eq_true, Bool.true_eq_false, ite_true, ite_false, reduceIte, true_and, and_true, false_or, or_false, true_or, or_true, atD0, atD1, atD2, Option.some.injEq, List.length_map, all_int, all_str, all_chr, all_bl, all_words, beq_iff_eq, Int.reduceLT, Int.reduceLE, Int.reduceEq, Int.reduceNeg, Int.reduceBEq, Int.reduceToNat, Int.reducePow, Nat.reduceAdd, Nat.reduceLT, Nat.reduceLeDiff, Bool.not_eq_eq_eq_not, decide_eq_true_eq, List.length_cons, List.length_nil, un, bin, tri, isTok, SZ, D.dic.injEq, D.dit.injEq, D.str.injEq, D.int.injEq, D.lst.injEq, D.bl.injEq, eqv_str, eqv_int, eqv_bl, eqv_is, eqv_si, eqv_sn, eqv_in, beq_self_eq_true, List.cons.injEq, exists_eq_left', forall_eq', exists_eq', exists_eq_left, exists_eq_right, Bool.and_self, Bool.or_self, Bool.or_true, Bool.or_false]
    exact ⟨keyOf, kk, fun ys h1 h2 => ⟨ys, rfl, h1, h2⟩⟩
  · simp only [b_sort_terms, r_wSortK, itemsK, r_wVar, r_wView, r_wOwn, r_wC, r_wFlat, r_wNewD, r_wNewT, r_wOp, r_wNeg, r_wIsN, r_wNotN, r_wIsB, r_wTest, r_wAnd, r_wOr, r_wNot, r_wAndV, r_wOrV, r_wNotV, r_wIf, r_wChain, r_wNil, r_wCons, r_wTup, r_wLst, r_wCall, r_wFn, r_wIsI, r_woN, r_woS, r_wSlice, r_wMt, r_wMt0, r_wRange1, r_wRange2, r_wItems, r_wBoIt, r_wOwIt, r_wKeys, r_gNm, r_gsNil, r_gsCons, r_gTp, r_wYes, r_wComp, r_wDComp, r_wDCompT, r_wNext, r_wSeq, r_wBreak, r_wCont, r_wExpr, r_wRet, r_wRetN, r_wIfS, r_wAsg, r_wOwnAsg, r_wFrz, r_wAppend, r_wInsert, r_wExtend, r_wClear, r_wClearT, r_wPopT, r_wPopTo, r_wSetIx, r_wFor, r_wForOw, r_fLen, r_fAbs, r_fMin2, r_fMax2, r_fInt, r_fStr, r_fList, r_fTuple, r_fDict, r_fAll, r_fAny, r_mCount, r_mRfind, r_mFind, r_mStarts, r_mEnds, r_mSplit, r_mJoin, r_mIsupper, r_mIsalnum, r_mIsalpha, r_mIsdigit, r_mLower, r_wipe, r_wipe2, oAdd, oSub, oMul, oMod, oFdiv, oPow, oEq, oNe, oLt, oLe, oGt, oGe, oIn, oNin, oIx, inD, frz, setIx, dicIt, boIt, owIt, startD, cellVw, cellSh, cellOw, kInt, kStr, kBl, kLst, kDic, kTup, plain2, scal2, D.scal, D.flat, D.isNon, D.isBl, D.isTy, D.dat, D.key, celOf, List.replicate, List.getElem?_cons_zero, List.getElem?_cons_succ, List.set_cons_zero, List.set_cons_succ, Option.getD_some, forall_exists_index, and_imp, forall_eq, forall_eq_apply_imp_iff, forall_apply_eq_imp_iff, if_true, if_false, Bool.not_true, Bool.not_false, Bool.not_eq_true', Bool.true_and, Bool.and_true, Bool.false_and, Bool.and_false, Bool.false_eq_true, Bool.true_eq_false, ite_true, ite_false, reduceIte, true_and, and_true, false_or, or_false, true_or, or_true, atD0, atD1, atD2, Option.some.injEq, List.length_map, all_int, all_str, all_chr, all_bl, all_words, beq_iff_eq, Int.reduceLT, Int.reduceLE, Int.reduceEq, Int.reduceNeg, Int.reduceBEq, Int.reduceToNat, Int.reducePow, Nat.reduceAdd, Nat.reduceLT, Nat.reduceLeDiff, Bool.not_eq_eq_eq_not, decide_eq_true_eq, List.length_cons, List.length_nil, un, bin, tri, isTok, SZ, D.dic.injEq, D.dit.injEq, D.str.injEq, D.int.injEq, D.lst.injEq, D.bl.injEq, eqv_str, eqv_int, eqv_bl, eqv_is, eqv_si, eqv_sn, eqv_in, beq_self_eq_true, List.cons.injEq, exists_eq_left', forall_eq', exists_eq', exists_eq_left, exists_eq_right, Bool.and_self, Bool.or_self, Bool.or_true, Bool.or_false]
    exact ⟨keyOf, kk, fun ys h1 h2 => ⟨ys, rfl, h1, h2⟩⟩

/-! ### variables_in -/
def varKs (vs : List (List Nat)) : List (D × D) := vs.map fun n => (D.str n, D.bl true)
theorem varKs_keyed {vs : List (List Nat)} : Keyed (varKs vs) := fun p hp => by
  obtain ⟨n, _, rfl⟩ := List.mem_map.mp hp
  rfl
theorem varKs_look {vs : List (List Nat)} {n : List Nat} : look (varKs vs) (.str n) = if n ∈ vs then some (.bl true) else none := by
  by_cases c : n ∈ vs
  · rw [if_pos c]
    cases e : look (varKs vs) (.str n) with
    | none =>
      rw [look_none varKs_keyed rfl] at e
      exact absurd (List.mem_map.mpr ⟨(D.str n, D.bl true), List.mem_map.mpr ⟨n, c, rfl⟩, rfl⟩) e
    | some v =>
      obtain ⟨m, _, e2⟩ := List.mem_map.mp (look_some varKs_keyed rfl e)
      cases e2; rfl
  · rw [if_neg c, look_none varKs_keyed rfl]
    intro h
    obtain ⟨p, hp, e⟩ := List.mem_map.mp h
    obtain ⟨m, hm, rfl⟩ := List.mem_map.mp hp
    cases e
    exact c hm
theorem varKs_put {vs : List (List Nat)} {n : List Nat} : put (varKs vs) (.str n) (.bl true) = varKs (if n ∈ vs then vs else vs ++ [n]) := by
  by_cases c : n ∈ vs
  · rw [if_pos c, put_old (w := .bl true) (by rw [varKs_look, if_pos c])]
    unfold varKs
    rw [List.map_map]
    refine List.map_congr_left fun m _ => ?_
    show (if D.eqv (.str m) (.str n) = true then _ else _) = _
    split <;> rfl
  · rw [if_neg c, put_new (by rw [varKs_look, if_neg c])]
    unfold varKs
    rw [List.map_append]; rfl
theorem varKs_fst {vs : List (List Nat)} : (varKs vs).map (·.1) = vs.map .str := by unfold varKs; rw [List.map_map]; rfl
theorem addV_len {acc : List (List Nat)} {x : D} : (addV acc x).length ≤ acc.length + 1 := by
  unfold addV
  split
  · split
    · omega
    · rw [List.length_append]; exact Nat.le_refl _
  · omega
theorem vc_variables_in : ∀ ds : List D, ds.length = 1 → S_variables_in.pre ds → b_variables_in { nx := fun _ => S_variables_in.post ds .non, rt := S_variables_in.post ds } (startD [false] ds 3) := by
  intro ds hl h
  match ds, h with
  | [x], h =>
  obtain ⟨xs, ⟨hz, hx⟩, e⟩ := kSeq_is (show kSeq x _ from h)
  have post : S_variables_in.post [x] (.lst ((varsX xs).map .str)) := by rcases e with rfl | rfl <;> rfl
  generalize S_variables_in.post [x] = Q at post
  have key : ∀ p : Nat, forD (gNm 2) b_variables_in_l23 { nx := fun Γ' => b_variables_in_t27 { nx := fun _ => Q .non, rt := Q } Γ', rt := Q } (fun _ => True) xs [.bo x, .ow p (.dic []), .no, .no] := by
    intro p
    refine forD_ind (fun ds Γ => ∃ acc c2 c3, (∀ y ∈ ds, okT y) ∧ acc.length + ds.length ≤ 1000000 ∧ ds.foldl addV acc = varsX xs ∧ Γ = [.bo x, .ow p (.dic (varKs acc)), c2, c3]) ?_ ?_ _ _ ?_
    · rintro Γ ⟨acc, c2, c3, _, l, e, rfl⟩
      have e : acc = varsX xs := e
      subst e
      have : (varKs (varsX xs)).length ≤ 1000000 := by unfold varKs; rw [List.length_map]; exact l
      simp only [b_variables_in_t27, varKs_fst, r_wVar, r_wView, r_wOwn, r_wC, r_wFlat, r_wNewD, r_wNewT, r_wOp, r_wNeg, r_wIsN, r_wNotN, r_wIsB, r_wTest, r_wAnd, r_wOr, r_wNot, r_wAndV, r_wOrV, r_wNotV, r_wIf, r_wChain, r_wNil, r_wCons, r_wTup, r_wLst, r_wCall, r_wFn, r_wIsI, r_woN, r_woS, r_wSlice, r_wMt, r_wMt0, r_wRange1, r_wRange2, r_wItems, r_wBoIt, r_wOwIt, r_wKeys, r_gNm, r_gsNil, r_gsCons, r_gTp, r_wYes, r_wComp, r_wDComp, r_wDCompT, r_wNext, r_wSeq, r_wBreak, r_wCont, r_wExpr, r_wRet, r_wRetN, r_wIfS, r_wAsg, r_wOwnAsg, r_wFrz, r_wAppend, r_wInsert, r_wExtend, r_wClear, r_wClearT, r_wPopT, r_wPopTo, r_wSetIx, r_wFor, r_wForOw, r_fLen, r_fAbs, r_fMin2, r_fMax2, r_fInt, r_fStr, r_fList, r_fTuple, r_fDict, r_fAll, r_fAny, r_mCount, r_mRfind, r_mFind, r_mStarts, r_mEnds, r_mSplit, r_mJoin, r_mIsupper, r_mIsalnum, r_mIsalpha, r_mIsdigit, r_mLower, r_wipe, r_wipe2, oAdd, oSub, oMul, oMod, oFdiv, oPow, oEq, oNe, oLt, oLe, oGt, oGe, oIn, oNin, oIx, inD, frz, setIx, dicIt, boIt, owIt, startD, cellVw, cellSh, cellOw, kInt, kStr, kBl, kLst, kDic, kTup, plain2, scal2, D.scal, D.flat, D.isNon, D.isBl, D.isTy, D.dat, D.key, celOf, List.replicate, List.getElem?_cons_zero, List.getElem?_cons_succ, List.set_cons_zero, List.set_cons_succ, Option.getD_some, forall_exists_index, and_imp, forall_eq, forall_eq_apply_imp_iff, forall_apply_eq_imp_iff, if_true, if_false, Bool.not_true, Bool.not_false, Bool.not_eq_true', Bool.true_and, Bool.and_true, Bool.false_and, Bool.and_false, Bool.false_eq_true, Bool.true_eq_false, ite_true, ite_false, reduceIte, true_and, and_true, false_or, or_false, true_or, or_true, atD0, atD1, atD2, Option.some.injEq, List.length_map, all_int, all_str, all_chr, all_bl, all_words, beq_iff_eq, Int.reduceLT, Int.reduceLE, Int.reduceEq, Int.reduceNeg, Int.reduceBEq, Int.reduceToNat, Int.reducePow, Nat.reduceAdd, Nat.reduceLT, Nat.reduceLeDiff, Bool.not_eq_eq_eq_not, decide_eq_true_eq, List.length_cons, List.length_nil, un, bin, tri, isTok, SZ, D.dic.injEq, D.dit.injEq, D.str.injEq, D.int.injEq, D.lst.injEq, D.bl.injEq, eqv_str, eqv_int, eqv_bl, eqv_is, eqv_si, eqv_sn, eqv_in, beq_self_eq_true, List.cons.injEq, exists_eq_left', forall_eq', exists_eq', exists_eq_left, exists_eq_right, Bool.and_self, Bool.or_self, Bool.or_true, Bool.or_false]
      exact ⟨by omega, post⟩
    · rintro d ds Γ N ⟨acc, c2, c3, hy, l, e, rfl⟩ hN
      rw [List.length_cons] at l
      have hd := hy d (List.mem_cons_self ..)
      have step : N [.bo x, .ow p (.dic (varKs (addV acc d))), .sh d, .sh (varX d)] := by
        have := addV_len (acc := acc) (x := d)
        exact hN _ ⟨addV acc d, _, _, fun y hy' => hy y (List.mem_cons_of_mem _ hy'), by omega, e, rfl⟩
      unfold addV at step
      have kl : (varKs acc).length ≤ 1000000 := by unfold varKs; rw [List.length_map]; omega
      rcases varX_cases (x := d) with hv | ⟨n, hv⟩
      · rw [hv] at step
        simp only [b_variables_in_l23, b_variables_in_t25, p_S_variable_of, q_S_variable_of, S_variable_of_pre, S_variable_of_post, hv, r_wVar, r_wView, r_wOwn, r_wC, r_wFlat, r_wNewD, r_wNewT, r_wOp, r_wNeg, r_wIsN, r_wNotN, r_wIsB, r_wTest, r_wAnd, r_wOr, r_wNot, r_wAndV, r_wOrV, r_wNotV, r_wIf, r_wChain, r_wNil, r_wCons, r_wTup, r_wLst, r_wCall, r_wFn, r_wIsI, r_woN, r_woS, r_wSlice, r_wMt, r_wMt0, r_wRange1, r_wRange2, r_wItems, r_wBoIt, r_wOwIt, r_wKeys, r_gNm, r_gsNil, r_gsCons, r_gTp, r_wYes, r_wComp, r_wDComp, r_wDCompT, r_wNext, r_wSeq, r_wBreak, r_wCont, r_wExpr, r_wRet, r_wRetN, r_wIfS, r_wAsg, r_wOwnAsg, r_wFrz, r_wAppend, r_wInsert, r_wExtend, r_wClear, r_wClearT, r_wPopT, r_wPopTo, r_wSetIx, r_wFor, r_wForOw, r_fLen, r_fAbs, r_fMin2, r_fMax2, r_fInt, r_fStr, r_fList, r_fTuple, r_fDict, r_fAll, r_fAny, r_mCount, r_mRfind, r_mFind, r_mStarts, r_mEnds, r_mSplit, r_mJoin, r_mIsupper, r_mIsalnum, r_mIsalpha, r_mIsdigit, r_mLower, r_wipe, r_wipe2, oAdd, oSub, oMul, oMod, oFdiv, oPow, oEq, oNe, oLt, oLe, oGt, oGe, oIn, oNin, oIx, inD, frz, setIx, dicIt, boIt, owIt, startD, cellVw, cellSh, cellOw, kInt, kStr, kBl, kLst, kDic, kTup, plain2, scal2, D.scal, D.flat, D.isNon, D.isBl, D.isTy, D.dat, D.key, celOf, List.replicate, List.getElem?_cons_zero, List.getElem?_cons_succ, List.set_cons_zero, List.set_cons_succ, Option.getD_some, forall_exists_index, and_imp, forall_eq, forall_eq_apply_imp_iff, forall_apply_eq_imp_iff, if_true, if_false, Bool.not_true, Bool.not_false, Bool.not_eq_true', Bool.true_and, Bool.and_true, Bool.false_and, Bool.and_false, Bool.false_eq_true, Bool.true_eq_false, ite_true, ite_false, reduceIte, true_and, and_true, false_or, or_false, true_or, or_true, atD0, atD1, atD2, Option.some.injEq, List.length_map, all_int, all_str, all_chr, all_bl, all_words, beq_iff_eq, Int.reduceLT, Int.reduceLE, Int.reduceEq, Int.reduceNeg, Int.reduceBEq, Int.reduceToNat, Int.reducePow, Nat.reduceAdd, Nat.reduceLT, Nat.reduceLeDiff, Bool.not_eq_eq_eq_not, decide_eq_true_eq, List.length_cons, List.length_nil, un, bin, tri, isTok, SZ, D.dic.injEq, D.dit.injEq, D.str.injEq, D.int.injEq, D.lst.injEq, D.bl.injEq, eqv_str, eqv_int, eqv_bl, eqv_is, eqv_si, eqv_sn, eqv_in, beq_self_eq_true, List.cons.injEq, exists_eq_left', forall_eq', exists_eq', exists_eq_left, exists_eq_right, Bool.and_self, Bool.or_self, Bool.or_true, Bool.or_false]
        exact ⟨hd, step⟩
      · rw [hv] at step
        simp only [b_variables_in_l23, b_variables_in_t25, p_S_variable_of, q_S_variable_of, S_variable_of_pre, S_variable_of_post, hv, varKs_put, r_wVar, r_wView, r_wOwn, r_wC, r_wFlat, r_wNewD, r_wNewT, r_wOp, r_wNeg, r_wIsN, r_wNotN, r_wIsB, r_wTest, r_wAnd, r_wOr, r_wNot, r_wAndV, r_wOrV, r_wNotV, r_wIf, r_wChain, r_wNil, r_wCons, r_wTup, r_wLst, r_wCall, r_wFn, r_wIsI, r_woN, r_woS, r_wSlice, r_wMt, r_wMt0, r_wRange1, r_wRange2, r_wItems, r_wBoIt, r_wOwIt, r_wKeys, r_gNm, r_gsNil, r_gsCons, r_gTp, r_wYes, r_wComp, r_wDComp, r_wDCompT, r_wNext, r_wSeq, r_wBreak, r_wCont, r_wExpr, r_wRet, r_wRetN, r_wIfS, r_wAsg, r_wOwnAsg, r_wFrz, r_wAppend, r_wInsert, r_wExtend, r_wClear, r_wClearT, r_wPopT, r_wPopTo, r_wSetIx, r_wFor, r_wForOw, r_fLen, r_fAbs, r_fMin2, r_fMax2, r_fInt, r_fStr, r_fList, r_fTuple, r_fDict, r_fAll, r_fAny, r_mCount, r_mRfind, r_mFind, r_mStarts, r_mEnds, r_mSplit, r_mJoin, r_mIsupper, r_mIsalnum, r_mIsalpha, r_mIsdigit, r_mLower, r_wipe, r_wipe2, oAdd, oSub, oMul, oMod, oFdiv, oPow, oEq, oNe, oLt, oLe, oGt, oGe, oIn, oNin, oIx, inD, frz, setIx, dicIt, boIt, owIt, startD, cellVw, cellSh, cellOw, kInt, kStr, kBl, kLst, kDic, kTup, plain2, scal2, D.scal, D.flat, D.isNon, D.isBl, D.isTy, D.dat, D.key, celOf, List.replicate, List.getElem?_cons_zero, List.getElem?_cons_succ, List.set_cons_zero, List.set_cons_succ, Option.getD_some, forall_exists_index, and_imp, forall_eq, forall_eq_apply_imp_iff, forall_apply_eq_imp_iff, if_true, if_false, Bool.not_true, Bool.not_false, Bool.not_eq_true', Bool.true_and, Bool.and_true, Bool.false_and, Bool.and_false, Bool.false_eq_true, Bool.true_eq_false, ite_true, ite_false, reduceIte, true_and, and_true, false_or, or_false, true_or, or_true, atD0, atD1, atD2, Option.some.injEq, List.length_map, all_int, all_str, all_chr, all_bl, all_words, beq_iff_eq, Int.reduceLT, Int.reduceLE, Int.reduceEq, Int.reduceNeg, Int.reduceBEq, Int.reduceToNat, Int.reducePow, Nat.reduceAdd, Nat.reduceLT, Nat.reduceLeDiff, Bool.not_eq_eq_eq_not, decide_eq_true_eq, List.length_cons, List.length_nil, un, bin, tri, isTok, SZ, D.dic.injEq, D.dit.injEq, D.str.injEq, D.int.injEq, D.lst.injEq, D.bl.injEq, eqv_str, eqv_int, eqv_bl, eqv_is, eqv_si, eqv_sn, eqv_in, beq_self_eq_true, List.cons.injEq, exists_eq_left', forall_eq', exists_eq', exists_eq_left, exists_eq_right, Bool.and_self, Bool.or_self, Bool.or_true, Bool.or_false]
        exact ⟨hd, by omega, step⟩
    · exact ⟨[], _, _, hx, by simpa using hz, rfl, rfl⟩
  rcases e with rfl | rfl
  · simp only [b_variables_in, b_variables_in_t23, r_wVar, r_wView, r_wOwn, r_wC, r_wFlat, r_wNewD, r_wNewT, r_wOp, r_wNeg, r_wIsN, r_wNotN, r_wIsB, r_wTest, r_wAnd, r_wOr, r_wNot, r_wAndV, r_wOrV, r_wNotV, r_wIf, r_wChain, r_wNil, r_wCons, r_wTup, r_wLst, r_wCall, r_wFn, r_wIsI, r_woN, r_woS, r_wSlice, r_wMt, r_wMt0, r_wRange1, r_wRange2, r_wItems, r_wBoIt, r_wOwIt, r_wKeys, r_gNm, r_gsNil, r_gsCons, r_gTp, r_wYes, r_wComp, r_wDComp, r_wDCompT, r_wNext, r_wSeq, r_wBreak, r_wCont, r_wExpr, r_wRet, r_wRetN, r_wIfS, r_wAsg, r_wOwnAsg, r_wFrz, r_wAppend, r_wInsert, r_wExtend, r_wClear, r_wClearT, r_wPopT, r_wPopTo, r_wSetIx, r_wFor, r_wForOw, r_fLen, r_fAbs, r_fMin2, r_fMax2, r_fInt, r_fStr, r_fList, r_fTuple, r_fDict, r_fAll, r_fAny, r_mCount, r_mRfind, r_mFind, r_mStarts, r_mEnds, r_mSplit, r_mJoin, r_mIsupper, r_mIsalnum, r_mIsalpha, r_mIsdigit, r_mLower, r_wipe, r_wipe2, oAdd, oSub, oMul, oMod, oFdiv, oPow, oEq, oNe, oLt, oLe, oGt, oGe, oIn, oNin, oIx, inD, frz, setIx, dicIt, boIt, owIt, startD, cellVw, cellSh, cellOw, kInt, kStr, kBl, kLst, kDic, kTup, plain2, scal2, D.scal, D.flat, D.isNon, D.isBl, D.isTy, D.dat, D.key, celOf, List.replicate, List.getElem?_cons_zero, List.getElem?_cons_succ, List.set_cons_zero, List.set_cons_succ, Option.getD_some, forall_exists_index, and_imp, forall_eq, forall_eq_apply_imp_iff, forall_apply_eq_imp_iff, if_true, if_false, Bool.not_true, Bool.not_false, Bool.not_eq_true', Bool.true_and, Bool.and_true, Bool.false_and, Bool.and_false, Bool.false_eq_true, Bool.true_eq_false, ite_true, ite_false, reduceIte, true_and, and_true, false_or, or_false, true_or, or_true, atD0, atD1, atD2, Option.some.injEq, List.length_map, all_int, all_str, all_chr, all_bl, all_words, beq_iff_eq, Int.reduceLT, Int.reduceLE, Int.reduceEq, Int.reduceNeg, Int.reduceBEq, Int.reduceToNat, Int.reducePow, Nat.reduceAdd, Nat.reduceLT, Nat.reduceLeDiff, Bool.not_eq_eq_eq_not, decide_eq_true_eq, List.length_cons, List.length_nil, un, bin, tri, isTok, SZ, D.dic.injEq, D.dit.injEq, D.str.injEq, D.int.injEq, D.lst.injEq, D.bl.injEq, eqv_str, eqv_int, eqv_bl, eqv_is, eqv_si, eqv_sn, eqv_in, beq_self_eq_true, List.cons.injEq, exists_eq_left', forall_eq', exists_eq', exists_eq_left, exists_eq_right, Bool.and_self, Bool.or_self, Bool.or_true, Bool.or_false]
    exact key
  · simp only [b_variables_in, b_variables_in_t23, r_wVar, r_wView, r_wOwn, r_wC, r_wFlat, r_wNewD, r_wNewT, r_wOp, r_wNeg, r_wIsN, r_wNotN, r_wIsB, r_wTest, r_wAnd, r_wOr, r_wNot, r_wAndV, r_wOrV, r_wNotV, r_wIf, r_wChain, r_wNil, r_wCons, r_wTup, r_wLst, r_wCall, r_wFn, r_wIsI, r_woN, r_woS, r_wSlice, r_wMt, r_wMt0, r_wRange1, r_wRange2, r_wItems, r_wBoIt, r_wOwIt, r_wKeys, r_gNm, r_gsNil, r_gsCons, r_gTp, r_wYes, r_wComp, r_wDComp, r_wDCompT, r_wNext, r_wSeq, r_wBreak, r_wCont, r_wExpr, r_wRet, r_wRetN, r_wIfS, r_wAsg, r_wOwnAsg, r_wFrz, r_wAppend, r_wInsert, r_wExtend, r_wClear, r_wClearT, r_wPopT, r_wPopTo, r_wSetIx, r_wFor, r_wForOw, r_fLen, r_fAbs, r_fMin2, r_fMax2, r_fInt, r_fStr, r_fList, r_fTuple, r_fDict, r_fAll, r_fAny, r_mCount, r_mRfind, r_mFind, r_mStarts, r_mEnds, r_mSplit, r_mJoin, r_mIsupper, r_mIsalnum, r_mIsalpha, r_mIsdigit, r_mLower, r_wipe, r_wipe2, oAdd, oSub, oMul, oMod, oFdiv, oPow, oEq, oNe, oLt, oLe, oGt, oGe, oIn, oNin, oIx, inD, frz, setIx, dicIt, boIt, owIt, startD, cellVw, cellSh, cellOw, kInt, kStr, kBl, kLst, kDic, kTup, plain2, scal2, D.scal, D.flat, D.isNon, D.isBl, D.isTy, D.dat, D.key, celOf, List.replicate, List.getElem?_cons_zero, List.getElem?_cons_succ, List.set_cons_zero, List.set_cons_succ, Option.getD_some, forall_exists_index, and_imp, forall_eq, forall_eq_apply_imp_iff, forall_apply_eq_imp_iff, if_true, if_false, Bool.not_true, Bool.not_false, Bool.not_eq_true', Bool.true_and, Bool.and_true, Bool.false_and, Bool.and_false, Bool.false_eq_true, Bool.true_eq_false, ite_true, ite_false, reduceIte, true_and, and_true, false_or, or_false, true_or, or_true, atD0, atD1, atD2, Option.some.injEq, List.length_map, all_int, all_str, all_chr, all_bl, all_words, beq_iff_eq, Int.reduceLT, Int.reduceLE, Int.reduceEq, Int.reduceNeg, Int.reduceBEq, Int.reduceToNat, Int.reducePow, Nat.reduceAdd, Nat.reduceLT, Nat.reduceLeDiff, Bool.not_eq_eq_eq_not, decide_eq_true_eq, List.length_cons, List.length_nil, un, bin, tri, isTok, SZ, D.dic.injEq, D.dit.injEq, D.str.injEq, D.int.injEq, D.lst.injEq, D.bl.injEq, eqv_str, eqv_int, eqv_bl, eqv_is, eqv_si, eqv_sn, eqv_in, beq_self_eq_true, List.cons.injEq, exists_eq_left', forall_eq', exists_eq', exists_eq_left, exists_eq_right, Bool.and_self, Bool.or_self, Bool.or_true, Bool.or_false]
    exact key

/-! ### is_ground -/
theorem split_ne {c : Nat} : ∀ s : List Nat, splitC c s ≠ []
  | [] => by simp [splitC]
  | x :: s => by
    unfold splitC
    split
    · simp
    · cases e : splitC c s with
      | nil => simp
      | cons w ws => simp
theorem split_mem {c : Nat} : ∀ {s w : List Nat}, w ∈ splitC c s → w.length ≤ s.length ∧ ∀ z ∈ w, z ∈ s
  | [], w, h => by
    have : w = [] := by simpa [splitC] using h
    subst this
    exact ⟨Nat.le_refl _, fun z hz => hz⟩
  | x :: s, w, h => by
    unfold splitC at h
    have ih := fun w h => @split_mem c s w h
    by_cases e : x = c
    · rw [if_pos e] at h
      rcases List.mem_cons.mp h with h | h
      · subst h; exact ⟨Nat.zero_le _, fun z hz => (List.not_mem_nil hz).elim⟩
      · obtain ⟨a, b⟩ := ih w h
        exact ⟨by rw [List.length_cons]; omega, fun z hz => List.mem_cons_of_mem _ (b z hz)⟩
    · rw [if_neg e] at h
      cases q : splitC c s with
      | nil => exact absurd q (split_ne s)
      | cons v vs =>
        rw [q] at h
        have ih := fun w h => ih w (q ▸ h)
        rcases List.mem_cons.mp h with h | h
        · subst h
          obtain ⟨a, b⟩ := ih v (List.mem_cons_self ..)
          refine ⟨by rw [List.length_cons, List.length_cons]; omega, fun z hz => ?_⟩
          rcases List.mem_cons.mp hz with hz | hz
          · exact hz ▸ List.mem_cons_self ..
          · exact List.mem_cons_of_mem _ (b z hz)
        · obtain ⟨a, b⟩ := ih w (List.mem_cons_of_mem _ h)
          exact ⟨by rw [List.length_cons]; omega, fun z hz => List.mem_cons_of_mem _ (b z hz)⟩
theorem split_len {c : Nat} : ∀ {s : List Nat}, (splitC c s).length ≤ s.length + 1
  | [] => by simp [splitC]
  | x :: s => by
    have ih := @split_len c s
    unfold splitC
    split
    · rw [List.length_cons, List.length_cons]; omega
    · cases q : splitC c s with
      | nil => exact absurd q (split_ne s)
      | cons v vs => rw [q] at ih; simp only [List.length_cons] at *; omega
theorem bools_map {α : Type} (f : α → Bool) : ∀ xs : List α, bools (xs.map fun x => .bl (f x)) = some (xs.map f)
  | [] => rfl
  | x :: xs => by
    show (bools (xs.map fun x => .bl (f x))).map (f x :: ·) = _
    rw [bools_map f xs]; rfl
theorem vc_is_ground : ∀ ds : List D, ds.length = 1 → S_is_ground.pre ds → b_is_ground { nx := fun _ => S_is_ground.post ds .non, rt := S_is_ground.post ds } (startD [false] ds 4) := by
  intro ds hl h
  match ds, h with
  | [x], h =>
  change okT x at h
  rcases h with ⟨i, rfl⟩ | ⟨s, rfl, h1, h2⟩
  · simp only [b_is_ground, p_S_is_ground, q_S_is_ground, S_is_ground_pre, S_is_ground_post, r_wVar, r_wView, r_wOwn, r_wC, r_wFlat, r_wNewD, r_wNewT, r_wOp, r_wNeg, r_wIsN, r_wNotN, r_wIsB, r_wTest, r_wAnd, r_wOr, r_wNot, r_wAndV, r_wOrV, r_wNotV, r_wIf, r_wChain, r_wNil, r_wCons, r_wTup, r_wLst, r_wCall, r_wFn, r_wIsI, r_woN, r_woS, r_wSlice, r_wMt, r_wMt0, r_wRange1, r_wRange2, r_wItems, r_wBoIt, r_wOwIt, r_wKeys, r_gNm, r_gsNil, r_gsCons, r_gTp, r_wYes, r_wComp, r_wDComp, r_wDCompT, r_wNext, r_wSeq, r_wBreak, r_wCont, r_wExpr, r_wRet, r_wRetN, r_wIfS, r_wAsg, r_wOwnAsg, r_wFrz, r_wAppend, r_wInsert, r_wExtend, r_wClear, r_wClearT, r_wPopT, r_wPopTo, r_wSetIx, r_wFor, r_wForOw, r_fLen, r_fAbs, r_fMin2, r_fMax2, r_fInt, r_fStr, r_fList, r_fTuple, r_fDict, r_fAll, r_fAny, r_mCount, r_mRfind, r_mFind, r_mStarts, r_mEnds, r_mSplit, r_mJoin, r_mIsupper, r_mIsalnum, r_mIsalpha, r_mIsdigit, r_mLower, r_wipe, r_wipe2, oAdd, oSub, oMul, oMod, oFdiv, oPow, oEq, oNe, oLt, oLe, oGt, oGe, oIn, oNin, oIx, inD, frz, setIx, dicIt, boIt, owIt, startD, cellVw, cellSh, cellOw, kInt, kStr, kBl, kLst, kDic, kTup, plain2, scal2, D.scal, D.flat, D.isNon, D.isBl, D.isTy, D.dat, D.key, celOf, List.replicate, List.getElem?_cons_zero, List.getElem?_cons_succ, List.set_cons_zero, List.set_cons_succ, Option.getD_some, forall_exists_index, and_imp, forall_eq, forall_eq_apply_imp_iff, forall_apply_eq_imp_iff, if_true, if_false, Bool.not_true, Bool.not_false, Bool.not_eq_true', Bool.true_and, Bool.and_true, Bool.false_and, Bool.and_false, Bool.false_eq_true, Bool.true_eq_false, ite_true, ite_false, reduceIte, true_and, and_true, false_or, or_false, true_or, or_true, atD0, atD1, atD2, Option.some.injEq, List.length_map, all_int, all_str, all_chr, all_bl, all_words, beq_iff_eq, Int.reduceLT, Int.reduceLE, Int.reduceEq, Int.reduceNeg, Int.reduceBEq, Int.reduceToNat, Int.reducePow, Nat.reduceAdd, Nat.reduceLT, Nat.reduceLeDiff, Bool.not_eq_eq_eq_not, decide_eq_true_eq, List.length_cons, List.length_nil, un, bin, tri, isTok, SZ, D.dic.injEq, D.dit.injEq, D.str.injEq, D.int.injEq, D.lst.injEq, D.bl.injEq, eqv_str, eqv_int, eqv_bl, eqv_is, eqv_si, eqv_sn, eqv_in, beq_self_eq_true, List.cons.injEq, exists_eq_left', forall_eq', exists_eq', exists_eq_left, exists_eq_right, Bool.and_self, Bool.or_self, Bool.or_true, Bool.or_false]
    rfl
  · have post : S_is_ground.post [.str s] (.bl (grd s)) := rfl
    generalize S_is_ground.post [.str s] = Q at post
    unfold grd at post
    have mem : ∀ w ∈ splitC 40 s, okS w := fun w hw => by
      obtain ⟨a, b⟩ := split_mem hw
      refine ⟨by omega, ?_⟩
      unfold asc at *
      rw [List.all_eq_true] at *
      exact fun z hz => h2 z (b z hz)
    have hne := split_ne (c := 40) s
    have hln := split_len (c := 40) (s := s)
    generalize hps : splitC 40 s = ps at *
    obtain ⟨qs, b, rfl⟩ : ∃ qs b, ps = qs ++ [b] := ⟨ps.dropLast, ps.getLast hne, (List.dropLast_concat_getLast hne).symm⟩
    have hb := mem b (List.mem_append_right _ (List.mem_singleton.mpr rfl))
    have hbl := hb.1
    rw [List.length_append] at hln
    have hln : qs.length + 1 ≤ s.length + 1 := hln
    have e1 : ((qs ++ [b]).map D.str)[(qs ++ [b]).length - 1]? = some (.str b) := by simp
    have e2 : ((qs ++ [b]).map D.str).dropLast = qs.map .str := by simp
    have e3 : (((qs ++ [b]).length : Int) - 1).toNat = qs.length := by rw [List.length_append]; show ((qs.length + 1 : Nat) - 1 : Int).toNat = _; omega
    have e5 : grP (qs ++ [b]) = ((List.replicate qs.length 41).isSuffixOf b && (qs.all wd && wd (b.take (b.length - qs.length)))) := by
      unfold grP
      split
      · rename_i e; exact absurd e (by simp)
      · simp
    rw [e5] at post
    have e4 : (List.replicate qs.length 41).length = qs.length := List.length_replicate ..
    have hq : ∀ w ∈ qs, okS w := fun w hw => mem w (List.mem_append_left _ hw)
    have e6 : ((qs ++ [b]).length : Int) - 1 = qs.length := by rw [List.length_append]; show ((qs.length + 1 : Nat) : Int) - 1 = _; omega
    simp only [b_is_ground, b_is_ground_t31, b_is_ground_t32, b_is_ground_t33, b_is_ground_t34, b_is_ground_t36, b_is_ground_t37, p_S_is_ground, q_S_is_ground, S_is_ground_pre, S_is_ground_post, flat_one, hps, e1, e2, e4, e6, Int.toNat_natCast, r_wVar, r_wView, r_wOwn, r_wC, r_wFlat, r_wNewD, r_wNewT, r_wOp, r_wNeg, r_wIsN, r_wNotN, r_wIsB, r_wTest, r_wAnd, r_wOr, r_wNot, r_wAndV, r_wOrV, r_wNotV, r_wIf, r_wChain, r_wNil, r_wCons, r_wTup, r_wLst, r_wCall, r_wFn, r_wIsI, r_woN, r_woS, r_wSlice, r_wMt, r_wMt0, r_wRange1, r_wRange2, r_wItems, r_wBoIt, r_wOwIt, r_wKeys, r_gNm, r_gsNil, r_gsCons, r_gTp, r_wYes, r_wComp, r_wDComp, r_wDCompT, r_wNext, r_wSeq, r_wBreak, r_wCont, r_wExpr, r_wRet, r_wRetN, r_wIfS, r_wAsg, r_wOwnAsg, r_wFrz, r_wAppend, r_wInsert, r_wExtend, r_wClear, r_wClearT, r_wPopT, r_wPopTo, r_wSetIx, r_wFor, r_wForOw, r_fLen, r_fAbs, r_fMin2, r_fMax2, r_fInt, r_fStr, r_fList, r_fTuple, r_fDict, r_fAll, r_fAny, r_mCount, r_mRfind, r_mFind, r_mStarts, r_mEnds, r_mSplit, r_mJoin, r_mIsupper, r_mIsalnum, r_mIsalpha, r_mIsdigit, r_mLower, r_wipe, r_wipe2, oAdd, oSub, oMul, oMod, oFdiv, oPow, oEq, oNe, oLt, oLe, oGt, oGe, oIn, oNin, oIx, inD, frz, setIx, dicIt, boIt, owIt, startD, cellVw, cellSh, cellOw, kInt, kStr, kBl, kLst, kDic, kTup, plain2, scal2, D.scal, D.flat, D.isNon, D.isBl, D.isTy, D.dat, D.key, celOf, List.replicate, List.getElem?_cons_zero, List.getElem?_cons_succ, List.set_cons_zero, List.set_cons_succ, Option.getD_some, forall_exists_index, and_imp, forall_eq, forall_eq_apply_imp_iff, forall_apply_eq_imp_iff, if_true, if_false, Bool.not_true, Bool.not_false, Bool.not_eq_true', Bool.true_and, Bool.and_true, Bool.false_and, Bool.and_false, Bool.false_eq_true, Bool.true_eq_false, ite_true, ite_false, reduceIte, true_and, and_true, false_or, or_false, true_or, or_true, atD0, atD1, atD2, Option.some.injEq, List.length_map, all_int, all_str, all_chr, all_bl, all_words, beq_iff_eq, Int.reduceLT, Int.reduceLE, Int.reduceEq, Int.reduceNeg, Int.reduceBEq, Int.reduceToNat, Int.reducePow, Nat.reduceAdd, Nat.reduceLT, Nat.reduceLeDiff, Bool.not_eq_eq_eq_not, decide_eq_true_eq, List.length_cons, List.length_nil, un, bin, tri, isTok, SZ, D.dic.injEq, D.dit.injEq, D.str.injEq, D.int.injEq, D.lst.injEq, D.bl.injEq, eqv_str, eqv_int, eqv_bl, eqv_is, eqv_si, eqv_sn, eqv_in, beq_self_eq_true, List.cons.injEq, exists_eq_left', forall_eq', exists_eq', exists_eq_left, exists_eq_right, Bool.and_self, Bool.or_self, Bool.or_true, Bool.or_false]
    refine ⟨by omega, fun p => ⟨⟨by omega, by omega, by omega⟩, ite2 (fun c => ?_) fun c => ⟨by omega, by omega, by omega, ?_, ?_⟩⟩⟩
    · rw [c] at post; exact post
    · omega
    · have c : (List.replicate qs.length 41).isSuffixOf b = true := by simpa using c
      have hsl : qs.length ≤ b.length := by
        have := (List.isSuffixOf_iff_suffix.mp c).length_le
        rw [e4] at this; exact this
      rw [c, Bool.true_and] at post
      have ec : cutD b none (some ((b.length : Int) - (qs.length : Nat))) = b.take (b.length - qs.length) := by
        rw [cut_take (by omega)]
        congr 1
        omega
      rw [ec, show qs.map D.str ++ [D.str (b.take (b.length - qs.length))] = (qs ++ [b.take (b.length - qs.length)]).map .str by simp]
      have hr : ∀ w ∈ qs ++ [b.take (b.length - qs.length)], okS w := fun w hw => by
        rcases List.mem_append.mp hw with h | h
        · exact hq w h
        · have : w = b.take (b.length - qs.length) := by simpa using h
          rw [this, ← ec]
          exact okS_cut hb
      have hall : (qs ++ [b.take (b.length - qs.length)]).all wd = (qs.all wd && wd (b.take (b.length - qs.length))) := by simp
      rw [← hall] at post
      have hlr : (qs ++ [b.take (b.length - qs.length)]).length ≤ 1000001 := by rw [List.length_append]; show qs.length + 1 ≤ _; omega
      generalize qs ++ [b.take (b.length - qs.length)] = rs at *
      refine compD_ind (fun ds acc => ∃ a z, rs = a ++ z ∧ ds = z.map .str ∧ acc = a.map fun w => .bl (wd w)) ?_ ?_ _ _ ⟨[], rs, rfl, rfl, rfl⟩
      · rintro acc ⟨a, z, e, e2, rfl⟩
        have : z = [] := List.map_eq_nil_iff.mp e2.symm
        subst this
        rw [List.append_nil] at e
        subst e
        refine ⟨_, bools_map wd rs, ?_⟩
        rw [List.all_map]
        exact post
      · rintro d ds acc N ⟨a, z, e, e2, rfl⟩ hN
        cases z with
        | nil => cases e2
        | cons w z =>
          obtain ⟨rfl, rfl⟩ := List.cons.inj e2
          have la : a.length ≤ 1000001 := by rw [e, List.length_append] at hlr; omega
          simp only [p_S_is_word, q_S_is_word, S_is_word_pre, S_is_word_post, r_wVar, r_wView, r_wOwn, r_wC, r_wFlat, r_wNewD, r_wNewT, r_wOp, r_wNeg, r_wIsN, r_wNotN, r_wIsB, r_wTest, r_wAnd, r_wOr, r_wNot, r_wAndV, r_wOrV, r_wNotV, r_wIf, r_wChain, r_wNil, r_wCons, r_wTup, r_wLst, r_wCall, r_wFn, r_wIsI, r_woN, r_woS, r_wSlice, r_wMt, r_wMt0, r_wRange1, r_wRange2, r_wItems, r_wBoIt, r_wOwIt, r_wKeys, r_gNm, r_gsNil, r_gsCons, r_gTp, r_wYes, r_wComp, r_wDComp, r_wDCompT, r_wNext, r_wSeq, r_wBreak, r_wCont, r_wExpr, r_wRet, r_wRetN, r_wIfS, r_wAsg, r_wOwnAsg, r_wFrz, r_wAppend, r_wInsert, r_wExtend, r_wClear, r_wClearT, r_wPopT, r_wPopTo, r_wSetIx, r_wFor, r_wForOw, r_fLen, r_fAbs, r_fMin2, r_fMax2, r_fInt, r_fStr, r_fList, r_fTuple, r_fDict, r_fAll, r_fAny, r_mCount, r_mRfind, r_mFind, r_mStarts, r_mEnds, r_mSplit, r_mJoin, r_mIsupper, r_mIsalnum, r_mIsalpha, r_mIsdigit, r_mLower, r_wipe, r_wipe2, oAdd, oSub, oMul, oMod, oFdiv, oPow, oEq, oNe, oLt, oLe, oGt, oGe, oIn, oNin, oIx, inD, frz, setIx, dicIt, boIt, owIt, startD, cellVw, cellSh, cellOw, kInt, kStr, kBl, kLst, kDic, kTup, plain2, scal2, D.scal, D.flat, D.isNon, D.isBl, D.isTy, D.dat, D.key, celOf, List.replicate, List.getElem?_cons_zero, List.getElem?_cons_succ, List.set_cons_zero, List.set_cons_succ, Option.getD_some, forall_exists_index, and_imp, forall_eq, forall_eq_apply_imp_iff, forall_apply_eq_imp_iff, if_true, if_false, Bool.not_true, Bool.not_false, Bool.not_eq_true', Bool.true_and, Bool.and_true, Bool.false_and, Bool.and_false, Bool.false_eq_true, Bool.true_eq_false, ite_true, ite_false, reduceIte, true_and, and_true, false_or, or_false, true_or, or_true, atD0, atD1, atD2, Option.some.injEq, List.length_map, all_int, all_str, all_chr, all_bl, all_words, beq_iff_eq, Int.reduceLT, Int.reduceLE, Int.reduceEq, Int.reduceNeg, Int.reduceBEq, Int.reduceToNat, Int.reducePow, Nat.reduceAdd, Nat.reduceLT, Nat.reduceLeDiff, Bool.not_eq_eq_eq_not, decide_eq_true_eq, List.length_cons, List.length_nil, un, bin, tri, isTok, SZ, D.dic.injEq, D.dit.injEq, D.str.injEq, D.int.injEq, D.lst.injEq, D.bl.injEq, eqv_str, eqv_int, eqv_bl, eqv_is, eqv_si, eqv_sn, eqv_in, beq_self_eq_true, List.cons.injEq, exists_eq_left', forall_eq', exists_eq', exists_eq_left, exists_eq_right, Bool.and_self, Bool.or_self, Bool.or_true, Bool.or_false]
          exact ⟨hr w (by rw [e]; exact List.mem_append_right _ (List.mem_cons_self ..)), by omega, hN _ ⟨a ++ [w], z, by rw [e, List.append_assoc]; rfl, rfl, by rw [List.map_append]; rfl⟩⟩

/-! ### digits -/
theorem digs_nat (n : Nat) : digs (n : Int) = (Nat.toDigits 10 n).map Char.toNat := by
  unfold digs
  rw [show toString (n : Int) = Nat.repr n from rfl, Nat.toList_repr]
theorem digs_dig {n c : Nat} (h : c ∈ digs (n : Int)) : diC c = true := by
  rw [digs_nat] at h
  obtain ⟨d, hd, rfl⟩ := List.mem_map.mp h
  have := Nat.isDigit_of_mem_toDigits (by decide) (by decide) hd
  unfold Char.isDigit at this
  simp only [Bool.and_eq_true, decide_eq_true_eq] at this
  unfold diC
  rw [Bool.and_eq_true, decide_eq_true_eq, decide_eq_true_eq]
  exact ⟨this.1, this.2⟩
theorem digs_len {n k : Nat} (hk : 0 < k) (h : n < 10 ^ k) : (digs (n : Int)).length ≤ k := by
  rw [digs_nat, List.length_map]
  exact (Nat.length_toDigits_le_iff (by decide) hk).mpr h
theorem digs_asc (n : Nat) : asc (digs (n : Int)) = true := List.all_eq_true.mpr fun c hc => by
  have := digs_dig hc
  unfold diC at this
  simp only [Bool.and_eq_true, decide_eq_true_eq] at this
  exact decide_eq_true (by omega)
end DL

/-! What the defs of k83 promise, over trees. -/
namespace K83
open DL
/-- an atom as far as it matters here -/
def okA (d : D) : Prop := d.nkey = true ∧ d.dd 4 ∧ d.plain 59 = true
def TELL : List Nat := [116, 101, 108, 108]
def TAKE : List Nat := [116, 97, 107, 101]
def letD (k : K3) (act : List Nat) (a : D) (w : Int) : D := .tup [.int k.1, .int k.2.1, .int k.2.2, .str act, a, .int w]
def isL (d : D) : Prop := ∃ k act a w, d = letD k act a w ∧ okA a ∧ (act = TELL ∨ act = TAKE)
def keyL : D → K3
  | .tup (.int i :: .int j :: .int k :: _) => (i, j, k)
  | _ => (0, 0, 0)
def atomL : D → D
  | .tup [_, _, _, _, a, _] => a
  | _ => .non
def tellL : D → Bool
  | .tup [_, _, _, .str s, _, _] => s == TELL
  | _ => false
def weightL : D → D
  | .tup [_, _, _, _, _, w] => w
  | _ => .non
def okMail (ms : List D) : Prop := ms.length ≤ 1000 ∧ (∀ l ∈ ms, isL l) ∧ ∀ y ∈ ms, ∀ z ∈ ms, keyL y = keyL z → y = z
/-- the letters that are seen -/
def seen (ms : List D) (day count : Int) : List D := (cutD ms none (some count)).filter fun l => decide ((keyL l).1 ≤ day)
/-- the atom a is told with the weight w -/
def Told (V : List D) (a w : D) : Prop := ∃ l ∈ V, atomL l = a ∧ tellL l = true ∧ weightL l = w ∧ ∀ l' ∈ V, atomL l' = a → lt3 (keyL l) (keyL l') = false
def Facts (V : List D) (d : D) : Prop := ∃ kvs, d = .dit kvs ∧ (kvs.map (·.1)).Nodup ∧ kvs.length ≤ 1000 ∧ ∀ a w, (a, w) ∈ kvs ↔ Told V a w
def p_S_facts_at  (ds : List D) : Prop := tri ds fun x y z => kLst x fun ms => kInt y fun i => kInt z fun j => okMail ms
def q_S_facts_at  (ds : List D) (d : D) : Prop := tri ds fun x y z => kLst x fun ms => kInt y fun i => kInt z fun j => Facts (seen ms i j) d
def S_facts_at  : Spec := ⟨p_S_facts_at, q_S_facts_at⟩
theorem S_facts_at_pre  {x : D} {ds : List D} : S_facts_at.pre (x :: ds) = p_S_facts_at (x :: ds) := rfl
theorem S_facts_at_post  {x d : D} {ds : List D} : S_facts_at.post (x :: ds) d = q_S_facts_at (x :: ds) d := rfl
def p_S__law_replayed  (ds : List D) : Prop := tri ds fun x y z => kLst x fun ms => kInt y fun i => kInt z fun j => okMail ms
def q_S__law_replayed  (ds : List D) (d : D) : Prop := tri ds fun x y z => kLst x fun ms => kInt y fun i => kInt z fun j => Facts (seen ms i j) d
def S__law_replayed  : Spec := ⟨p_S__law_replayed, q_S__law_replayed⟩
theorem S__law_replayed_pre  {x : D} {ds : List D} : S__law_replayed.pre (x :: ds) = p_S__law_replayed (x :: ds) := rfl
theorem S__law_replayed_post  {x d : D} {ds : List D} : S__law_replayed.post (x :: ds) d = q_S__law_replayed (x :: ds) d := rfl
def isW (w : List Nat) : Prop := 1 ≤ w.length ∧ w.length ≤ 8 ∧ ∀ c ∈ w, loC c = true ∨ diC c = true
def p_S__law_word  (ds : List D) : Prop := bin ds fun p x => isTok p ∧ kLst x fun xs => xs.all D.scal = true
def q_S__law_word  (ds : List D) (d : D) : Prop := ∃ w, d = .str w ∧ isW w
def S__law_word  : Spec := ⟨p_S__law_word, q_S__law_word⟩
theorem S__law_word_pre  {x : D} {ds : List D} : S__law_word.pre (x :: ds) = p_S__law_word (x :: ds) := rfl
theorem S__law_word_post  {x d : D} {ds : List D} : S__law_word.post (x :: ds) d = q_S__law_word (x :: ds) d := rfl
def okAtoms (xs : List D) : Prop := 1 ≤ xs.length ∧ xs.length ≤ 100 ∧ ∀ a ∈ xs, okA a
def p_S__law_drawn_atoms  (ds : List D) : Prop := un ds isTok
def q_S__law_drawn_atoms  (ds : List D) (d : D) : Prop := ∃ xs, d = .lst xs ∧ okAtoms xs
def S__law_drawn_atoms  : Spec := ⟨p_S__law_drawn_atoms, q_S__law_drawn_atoms⟩
theorem S__law_drawn_atoms_pre  {x : D} {ds : List D} : S__law_drawn_atoms.pre (x :: ds) = p_S__law_drawn_atoms (x :: ds) := rfl
theorem S__law_drawn_atoms_post  {x d : D} {ds : List D} : S__law_drawn_atoms.post (x :: ds) d = q_S__law_drawn_atoms (x :: ds) d := rfl
def p_S__law_drawn_mail  (ds : List D) : Prop := tri ds fun p x y => isTok p ∧ (kLst x fun xs => okAtoms xs) ∧ kInt y fun i => 0 ≤ i ∧ i ≤ 200
def q_S__law_drawn_mail  (ds : List D) (d : D) : Prop := ∃ ms, d = .lst ms ∧ okMail ms
def S__law_drawn_mail  : Spec := ⟨p_S__law_drawn_mail, q_S__law_drawn_mail⟩
theorem S__law_drawn_mail_pre  {x : D} {ds : List D} : S__law_drawn_mail.pre (x :: ds) = p_S__law_drawn_mail (x :: ds) := rfl
theorem S__law_drawn_mail_post  {x d : D} {ds : List D} : S__law_drawn_mail.post (x :: ds) d = q_S__law_drawn_mail (x :: ds) d := rfl
def p_S__law_other_mail  (ds : List D) : Prop := tri ds fun p x y => isTok p ∧ (kLst x fun xs => okMail xs) ∧ kLst y fun xs => okAtoms xs
def q_S__law_other_mail  (ds : List D) (d : D) : Prop := ∃ ms, d = .lst ms ∧ okMail ms
def S__law_other_mail  : Spec := ⟨p_S__law_other_mail, q_S__law_other_mail⟩
theorem S__law_other_mail_pre  {x : D} {ds : List D} : S__law_other_mail.pre (x :: ds) = p_S__law_other_mail (x :: ds) := rfl
theorem S__law_other_mail_post  {x d : D} {ds : List D} : S__law_other_mail.post (x :: ds) d = q_S__law_other_mail (x :: ds) d := rfl
def isPair (d : D) : Prop := ∃ i j : Int, d = .tup [.int i, .int j]
def p_S__law_asked_pairs  (ds : List D) : Prop := bin ds fun p x => isTok p ∧ kLst x fun xs => okMail xs
def q_S__law_asked_pairs  (ds : List D) (d : D) : Prop := ∃ ps, d = .lst ps ∧ 1 ≤ ps.length ∧ ps.length ≤ 1000 ∧ ∀ p ∈ ps, isPair p
def S__law_asked_pairs  : Spec := ⟨p_S__law_asked_pairs, q_S__law_asked_pairs⟩
theorem S__law_asked_pairs_pre  {x : D} {ds : List D} : S__law_asked_pairs.pre (x :: ds) = p_S__law_asked_pairs (x :: ds) := rfl
theorem S__law_asked_pairs_post  {x d : D} {ds : List D} : S__law_asked_pairs.post (x :: ds) d = q_S__law_asked_pairs (x :: ds) d := rfl
end K83

/-! The readings of the defs, over trees (printed by gen.py). -/
namespace K83
open DL
def b_facts_at : WS := (wSeq (wOwnAsg 3 wNewT)
  (wSeq (wFor (wItems (wSlice (wView 0) woN (woS (wView 2)))) (gNm 4)
  (wSeq (wAsg (gNm 5) (wOp oIx (wView 4) (wC (.int 4))))
  (wIfS (wAnd (wTest (wOp oLe (wOp oIx (wView 4) (wC (.int 0))) (wView 1))) (wOr (wTest (wOp oNin (wView 5) (wView 3))) (wTest (wOp oLt (wSlice (wOp oIx (wView 3) (wView 5)) woN (woS (wC (.int 3)))) (wSlice (wView 4) woN (woS (wC (.int 3))))))))
  (wSetIx 3 (wVar 5) (wVar 4))
  wNext)))
  (wFrz 3 (wRet (wDCompT [5] (wKeys 3) (gNm 5) (wTest (wOp oEq (wOp oIx (wOp oIx (wView 3) (wView 5)) (wC (.int 3))) (wC (.str [116, 101, 108, 108])))) (wVar 5) (wOp oIx (wOp oIx (wView 3) (wView 5)) (wC (.int 5))))))))

def b__law_word_l31 : WS := (wAsg (gNm 4) (wOp oAdd (wView 4) (wOp oIx (wView 2) (wCall S_draw (wCons (wView 0) (wCons (wC (.int 36)) wNil))))))

def b__law_word_t36 : WS := (wAsg (gNm 4) (wOp oAdd (wC (.str [119])) (wFn fStr (wCons (wView 5) wNil))))

def b__law_word_l33 : WS := (wSeq (wIfS (wAnd (wTest (wOp oNin (wView 4) (wView 3))) (wAnd (wTest (wOp oNe (wSlice (wView 4) woN (woS (wC (.int 5)))) (wC (.str [110, 101, 118, 101, 114])))) (wTest (wOp oNin (wView 4) (wView 1)))))
  wBreak
  wNext)
  b__law_word_t36)

def b__law_word_t37 : WS := (wRet (wVar 4))

def b__law_word_t33 : WS := (wSeq (wFor (wRange1 (wC (.int 100))) (gNm 5)
  b__law_word_l33)
  b__law_word_t37)

def b__law_word_t31 : WS := (wSeq (wFor (wRange1 (wOp oIx (wLst (wCons (wC (.int 0)) (wCons (wC (.int 0)) (wCons (wC (.int 0)) (wCons (wC (.int 1)) (wCons (wC (.int 1)) (wCons (wC (.int 2)) (wCons (wC (.int 4)) (wCons (wC (.int 7)) wNil))))))))) (wCall S_draw (wCons (wView 0) (wCons (wC (.int 8)) wNil))))) (gNm 5)
  b__law_word_l31)
  b__law_word_t33)

def b__law_word_t30 : WS := (wSeq (wAsg (gNm 4) (wOp oIx (wView 2) (wCall S_draw (wCons (wView 0) (wCons (wC (.int 26)) wNil)))))
  b__law_word_t31)

def b__law_word_t29 : WS := (wSeq (wAsg (gNm 3) (wLst (wCons (wC (.str [100, 101, 112, 116, 104])) (wCons (wC (.str [109, 111, 100, 117, 108, 101])) (wCons (wC (.str [103, 105, 118, 101, 110])) (wCons (wC (.str [115, 104, 111, 119, 110])) (wCons (wC (.str [110, 111, 116])) (wCons (wC (.str [99, 111, 117, 110, 116])) (wCons (wC (.str [115, 117, 109])) (wCons (wC (.str [109, 105, 110])) (wCons (wC (.str [109, 97, 120])) (wCons (wC (.str [110, 97, 109, 101])) (wCons (wC (.str [110, 117, 109, 98, 101, 114])) (wCons (wC (.str [98, 97, 115, 101])) wNil))))))))))))))
  b__law_word_t30)

def b__law_word : WS := (wSeq (wAsg (gNm 2) (wC (.str [97, 98, 99, 100, 101, 102, 103, 104, 105, 106, 107, 108, 109, 110, 111, 112, 113, 114, 115, 116, 117, 118, 119, 120, 121, 122, 48, 49, 50, 51, 52, 53, 54, 55, 56, 57])))
  b__law_word_t29)

def b__law_drawn_atoms_l69 : WS := (wAsg (gNm 7) (wOp oAdd (wOp oAdd (wOp oAdd (wOp oIx (wView 1) (wC (.int 0))) (wC (.str [40]))) (wView 7)) (wC (.str [41]))))

def b__law_drawn_atoms_t71 : WS := (wAppend 5 (wIf (wTest (wOp oEq (wCall S_draw (wCons (wView 0) (wCons (wC (.int 3)) wNil))) (wC (.int 0)))) (wCall S_draw (wCons (wView 0) (wCons (wC (.int 1000)) wNil))) (wVar 7)))

def b__law_drawn_atoms_t69 : WS := (wSeq (wFor (wRange1 (wOp oIx (wLst (wCons (wC (.int 0)) (wCons (wC (.int 0)) (wCons (wC (.int 1)) (wCons (wC (.int 2)) wNil))))) (wCall S_draw (wCons (wView 0) (wCons (wC (.int 4)) wNil))))) (gNm 8)
  b__law_drawn_atoms_l69)
  b__law_drawn_atoms_t71)

def b__law_drawn_atoms_t68 : WS := (wSeq (wAsg (gNm 7) (wOp oIx (wView 1) (wNeg (wC (.int 1)))))
  b__law_drawn_atoms_t69)

def b__law_drawn_atoms_l66 : WS := (wSeq (wAppend 1 (wCall S__law_word (wCons (wView 0) (wCons (wView 1) wNil))))
  b__law_drawn_atoms_t68)

def b__law_drawn_atoms_t72 : WS := (wAppend 2 (wTup (wCons (wVar 4) (wCons (wFn fTuple (wCons (wView 5) wNil)) wNil))))

def b__law_drawn_atoms_t66 : WS := (wSeq (wFor (wRange1 (wCall S_draw (wCons (wView 0) (wCons (wC (.int 4)) wNil)))) (gNm 6)
  b__law_drawn_atoms_l66)
  b__law_drawn_atoms_t72)

def b__law_drawn_atoms_t65 : WS := (wSeq (wOwnAsg 5 (wLst wNil))
  b__law_drawn_atoms_t66)

def b__law_drawn_atoms_t64 : WS := (wSeq (wAsg (gNm 4) (wIf (wTest (wOp oEq (wCall S_draw (wCons (wView 0) (wCons (wC (.int 2)) wNil))) (wC (.int 0)))) (wOp oIx (wView 1) (wC (.int 0))) (wOp oIx (wView 1) (wNeg (wC (.int 1))))))
  b__law_drawn_atoms_t65)

def b__law_drawn_atoms_l62 : WS := (wSeq (wAppend 1 (wCall S__law_word (wCons (wView 0) (wCons (wView 1) wNil))))
  b__law_drawn_atoms_t64)

def b__law_drawn_atoms_t73 : WS := (wFrz 2 (wRet (wVar 2)))

def b__law_drawn_atoms_t62 : WS := (wSeq (wFor (wRange1 (wOp oAdd (wC (.int 1)) (wCall S_draw (wCons (wView 0) (wCons (wC (.int 4)) wNil))))) (gNm 3)
  b__law_drawn_atoms_l62)
  b__law_drawn_atoms_t73)

def b__law_drawn_atoms_t61 : WS := (wSeq (wOwnAsg 2 (wLst wNil))
  b__law_drawn_atoms_t62)

def b__law_drawn_atoms : WS := (wSeq (wOwnAsg 1 (wLst wNil))
  b__law_drawn_atoms_t61)

def b__law_drawn_mail_t85 : WS := (wAppend 3 (wOp oAdd (wView 7) (wTup (wCons (wVar 8) (wCons (wCall S_pick (wCons (wView 0) (wCons (wView 1) wNil))) (wCons (wCall S_draw (wCons (wView 0) (wCons (wC (.int 10)) wNil))) wNil))))))

def b__law_drawn_mail_t84 : WS := (wSeq (wAsg (gNm 8) (wIf (wTest (wOp oEq (wCall S_draw (wCons (wView 0) (wCons (wC (.int 3)) wNil))) (wC (.int 0)))) (wC (.str [116, 97, 107, 101])) (wC (.str [116, 101, 108, 108]))))
  b__law_drawn_mail_t85)

def b__law_drawn_mail_t80 : WS := (wIfS (wAnd (wTest (wOp oGt (wFn fLen (wCons (wView 3) wNil)) (wC (.int 0)))) (wTest (wOp oEq (wCall S_draw (wCons (wView 0) (wCons (wC (.int 5)) wNil))) (wC (.int 0)))))
  (wAppend 3 (wCall S_pick (wCons (wView 0) (wCons (wView 3) wNil))))
  (wIfS (wTest (wOp oNin (wView 7) (wView 4)))
  (wSeq (wSetIx 4 (wVar 7) (wC (.bl true)))
  b__law_drawn_mail_t84)
  wNext))

def b__law_drawn_mail_t79 : WS := (wSeq (wAsg (gNm 7) (wTup (wCons (wVar 6) (wCons (wOp oAdd (wC (.int 1)) (wCall S_draw (wCons (wView 0) (wCons (wC (.int 3)) wNil)))) (wCons (wOp oAdd (wC (.int 1)) (wCall S_draw (wCons (wView 0) (wCons (wC (.int 60)) wNil)))) wNil)))))
  b__law_drawn_mail_t80)

def b__law_drawn_mail_l77 : WS := (wSeq (wAsg (gNm 6) (wIf (wTest (wOp oEq (wCall S_draw (wCons (wView 0) (wCons (wC (.int 2)) wNil))) (wC (.int 0)))) (wCall S_draw (wCons (wView 0) (wCons (wC (.int 4)) wNil))) (wCall S_draw (wCons (wView 0) (wCons (wC (.int 100)) wNil)))))
  b__law_drawn_mail_t79)

def b__law_drawn_mail_t86 : WS := (wFrz 3 (wRet (wVar 3)))

def b__law_drawn_mail_t77 : WS := (wSeq (wFor (wRange1 (wView 2)) (gNm 5)
  b__law_drawn_mail_l77)
  b__law_drawn_mail_t86)

def b__law_drawn_mail_t76 : WS := (wSeq (wOwnAsg 4 wNewT)
  b__law_drawn_mail_t77)

def b__law_drawn_mail : WS := (wSeq (wOwnAsg 3 (wLst wNil))
  b__law_drawn_mail_t76)

def b__law_other_mail_t97 : WS := (wRet (wComp [6] (wBoIt 1) (gNm 6) wYes (wIf (wTest (wOp oEq (wView 6) (wView 3))) (wVar 4) (wVar 6))))

def b__law_other_mail_t95 : WS := (wSeq (wIfS (wTest (wOp oEq (wView 5) (wC (.int 2))))
  (wAsg (gNm 4) (wOp oAdd (wSlice (wView 3) woN (woS (wC (.int 4)))) (wTup (wCons (wCall S_pick (wCons (wView 0) (wCons (wView 2) wNil))) (wCons (wOp oIx (wView 3) (wC (.int 5))) wNil)))))
  wNext)
  b__law_other_mail_t97)

def b__law_other_mail_t93 : WS := (wSeq (wIfS (wTest (wOp oEq (wView 5) (wC (.int 1))))
  (wAsg (gNm 4) (wOp oAdd (wSlice (wView 3) woN (woS (wC (.int 5)))) (wTup (wCons (wOp oMod (wFn fInt (wCons (wOp oAdd (wOp oAdd (wOp oIx (wView 3) (wC (.int 5))) (wC (.int 1))) (wCall S_draw (wCons (wView 0) (wCons (wC (.int 9)) wNil)))) wNil)) (wC (.int 10))) wNil))))
  wNext)
  b__law_other_mail_t95)

def b__law_other_mail_t92 : WS := (wSeq (wAsg (gNm 5) (wCall S_draw (wCons (wView 0) (wCons (wC (.int 3)) wNil))))
  b__law_other_mail_t93)

def b__law_other_mail_t91 : WS := (wSeq (wAsg (gNm 4) (wOp oAdd (wSlice (wView 3) woN (woS (wC (.int 3)))) (wTup (wCons (wIf (wTest (wOp oEq (wOp oIx (wView 3) (wC (.int 3))) (wC (.str [116, 101, 108, 108])))) (wC (.str [116, 97, 107, 101])) (wC (.str [116, 101, 108, 108]))) (wCons (wOp oIx (wView 3) (wC (.int 4))) (wCons (wOp oIx (wView 3) (wC (.int 5))) wNil))))))
  b__law_other_mail_t92)

def b__law_other_mail_t90 : WS := (wSeq (wAsg (gNm 3) (wCall S_pick (wCons (wView 0) (wCons (wView 1) wNil))))
  b__law_other_mail_t91)

def b__law_other_mail : WS := (wSeq (wIfS (wTest (wOp oEq (wFn fLen (wCons (wView 1) wNil)) (wC (.int 0))))
  (wRet (wLst (wCons (wTup (wCons (wC (.int 0)) (wCons (wC (.int 1)) (wCons (wC (.int 1)) (wCons (wC (.str [116, 101, 108, 108])) (wCons (wOp oIx (wView 2) (wC (.int 0))) (wCons (wC (.int 0)) wNil))))))) wNil)))
  wNext)
  b__law_other_mail_t90)

def b__law_asked_pairs_l100 : WS := (wAsg (gNm 2) (wOp oAdd (wView 2) (wLst (wCons (wOp oIx (wView 3) (wC (.int 0))) (wCons (wOp oAdd (wOp oIx (wView 3) (wC (.int 0))) (wC (.int 1))) (wCons (wFn fMax2 (wCons (wC (.int 0)) (wCons (wOp oSub (wOp oIx (wView 3) (wC (.int 0))) (wC (.int 1))) wNil))) wNil))))))

def b__law_asked_pairs_l106 : WS := (wAppend 5 (wTup (wCons (wVar 6) (wCons (wCall S_pick (wCons (wView 0) (wCons (wView 4) wNil))) wNil))))

def b__law_asked_pairs_l108 : WS := (wAppend 5 (wTup (wCons (wCall S_pick (wCons (wView 0) (wCons (wView 2) wNil))) (wCons (wVar 7) wNil))))

def b__law_asked_pairs_t110 : WS := (wFrz 5 (wRet (wVar 5)))

def b__law_asked_pairs_t108 : WS := (wSeq (wFor (wItems (wVar 4)) (gNm 7)
  b__law_asked_pairs_l108)
  b__law_asked_pairs_t110)

def b__law_asked_pairs_t106 : WS := (wSeq (wFor (wItems (wVar 2)) (gNm 6)
  b__law_asked_pairs_l106)
  b__law_asked_pairs_t108)

def b__law_asked_pairs_t105 : WS := (wSeq (wOwnAsg 5 (wLst (wCons (wTup (wCons (wC (.int 99)) (wCons (wFn fLen (wCons (wView 1) wNil)) wNil))) wNil)))
  b__law_asked_pairs_t106)

def b__law_asked_pairs_t103 : WS := (wSeq (wIfS (wTest (wOp oGt (wFn fLen (wCons (wView 1) wNil)) (wC (.int 12))))
  (wRet (wComp [8] (wRange1 (wC (.int 8))) (gNm 8) wYes (wTup (wCons (wCall S_pick (wCons (wView 0) (wCons (wView 2) wNil))) (wCons (wIf (wTest (wOp oLt (wView 8) (wC (.int 4)))) (wCall S_pick (wCons (wView 0) (wCons (wView 4) wNil))) (wFn fLen (wCons (wView 1) wNil))) wNil)))))
  wNext)
  b__law_asked_pairs_t105)

def b__law_asked_pairs_t102 : WS := (wSeq (wAsg (gNm 4) (wOp oAdd (wComp [7] (wRange1 (wOp oAdd (wFn fMin2 (wCons (wFn fLen (wCons (wView 1) wNil)) (wCons (wC (.int 12)) wNil))) (wC (.int 2)))) (gNm 7) wYes (wVar 7)) (wLst (wCons (wFn fLen (wCons (wView 1) wNil)) (wCons (wOp oAdd (wFn fLen (wCons (wView 1) wNil)) (wC (.int 1))) (wCons (wOp oPow (wC (.int 10)) (wC (.int 60))) wNil))))))
  b__law_asked_pairs_t103)

def b__law_asked_pairs_t100 : WS := (wSeq (wFor (wItems (wSlice (wView 1) woN (woS (wC (.int 12))))) (gNm 3)
  b__law_asked_pairs_l100)
  b__law_asked_pairs_t102)

def b__law_asked_pairs : WS := (wSeq (wAsg (gNm 2) (wLst (wCons (wC (.int 0)) (wCons (wC (.int 99)) (wCons (wC (.int 100)) (wCons (wOp oPow (wC (.int 10)) (wC (.int 60))) wNil))))))
  b__law_asked_pairs_t100)

def b__law_replayed : WS := (wSeq (wOwnAsg 3 wNewT)
  (wSeq (wFor (wItems (wSortL (wComp [5] (wItems (wSlice (wView 0) woN (woS (wView 2)))) (gNm 5) (wTest (wOp oLe (wOp oIx (wView 5) (wC (.int 0))) (wView 1))) (wVar 5)))) (gNm 4)
  (wIfS (wTest (wOp oEq (wOp oIx (wView 4) (wC (.int 3))) (wC (.str [116, 101, 108, 108]))))
  (wSetIx 3 (wOp oIx (wView 4) (wC (.int 4))) (wOp oIx (wView 4) (wC (.int 5))))
  (wIfS (wTest (wOp oIn (wOp oIx (wView 4) (wC (.int 4))) (wView 3)))
  (wPopT 3 (wOp oIx (wView 4) (wC (.int 4))))
  wNext)))
  (wFrz 3 (wRet (wVar 3)))))

def b_law_t138 : WS := (wClearT 12)

def b_law_t137 : WS := (wSeq (wSetIx 11 (wTup (wCons (wC (.str [115, 112, 111, 105, 108, 116])) (wCons (wTup wNil) wNil))) (wC (.int 1)))
  b_law_t138)

def b_law_t135 : WS := (wSeq (wIfS (wOr (wNot (wTest (wCall (S_same 8) (wCons (wView 11) (wCons (wView 8) wNil))))) (wNot (wTest (wCall (S_same 8) (wCons (wView 12) (wCons (wView 9) wNil))))))
  (wRet (wC (.bl false)))
  wNext)
  b_law_t137)

def b_law_t134 : WS := (wSeq (wOwnAsg 12 (wCall S_facts_at (wCons (wFn fList (wCons (wView 5) wNil)) (wCons (wOp oIx (wView 7) (wC (.int 0))) (wCons (wOp oIx (wView 7) (wC (.int 1))) wNil)))))
  b_law_t135)

def b_law_t133 : WS := (wSeq (wClear 10)
  b_law_t134)

def b_law_t131 : WS := (wSeq (wIfS (wOr (wTest (wOp oNe (wFn fLen (wCons (wView 10) wNil)) (wFn fLen (wCons (wView 4) wNil)))) (wAnd (wTest (wOp oEq (wView 7) (wOp oIx (wView 6) (wC (.int 0))))) (wNot (wTest (wCall (S_same 8) (wCons (wView 10) (wCons (wView 4) wNil)))))))
  (wRet (wC (.bl false)))
  wNext)
  b_law_t133)

def b_law_t130 : WS := (wSeq (wOwnAsg 11 (wCall S_facts_at (wCons (wView 10) (wCons (wOp oIx (wView 7) (wC (.int 0))) (wCons (wOp oIx (wView 7) (wC (.int 1))) wNil)))))
  b_law_t131)

def b_law_t129 : WS := (wSeq (wOwnAsg 10 (wFn fList (wCons (wView 4) wNil)))
  b_law_t130)

def b_law_t128 : WS := (wSeq (wAsg (gNm 9) (wCall S__law_replayed (wCons (wView 5) (wCons (wOp oIx (wView 7) (wC (.int 0))) (wCons (wOp oIx (wView 7) (wC (.int 1))) wNil)))))
  b_law_t129)

def b_law_l126 : WS := (wSeq (wAsg (gNm 8) (wCall S__law_replayed (wCons (wView 4) (wCons (wOp oIx (wView 7) (wC (.int 0))) (wCons (wOp oIx (wView 7) (wC (.int 1))) wNil)))))
  b_law_t128)

def b_law_t139 : WS := (wRet (wC (.bl true)))

def b_law_t126 : WS := (wSeq (wFor (wItems (wOp oAdd (wView 6) (wSlice (wView 6) woN (woS (wC (.int 1)))))) (gNm 7)
  b_law_l126)
  b_law_t139)

def b_law_t125 : WS := (wSeq (wAsg (gNm 6) (wCall S__law_asked_pairs (wCons (wCall S_pool (wCons (wView 0) (wCons (wC (.int 3)) wNil))) (wCons (wView 4) wNil))))
  b_law_t126)

def b_law_t124 : WS := (wSeq (wAsg (gNm 5) (wCall S__law_other_mail (wCons (wCall S_pool (wCons (wView 0) (wCons (wC (.int 2)) wNil))) (wCons (wView 4) (wCons (wView 2) wNil)))))
  b_law_t125)

def b_law_t123 : WS := (wSeq (wAsg (gNm 4) (wCall S__law_drawn_mail (wCons (wView 1) (wCons (wView 2) (wCons (wView 3) wNil)))))
  b_law_t124)

def b_law_t122 : WS := (wSeq (wAsg (gNm 3) (wIf (wTest (wOp oEq (wCall S_draw (wCons (wView 1) (wCons (wC (.int 8)) wNil))) (wC (.int 0)))) (wOp oAdd (wC (.int 60)) (wCall S_draw (wCons (wView 1) (wCons (wC (.int 121)) wNil)))) (wCall S_draw (wCons (wView 1) (wCons (wC (.int 13)) wNil)))))
  b_law_t123)

def b_law_t121 : WS := (wSeq (wAsg (gNm 2) (wCall S__law_drawn_atoms (wCons (wCall S_pool (wCons (wView 0) (wCons (wC (.int 0)) wNil))) wNil)))
  b_law_t122)

def b_law : WS := (wSeq (wAsg (gNm 1) (wCall S_pool (wCons (wView 0) (wCons (wC (.int 1)) wNil))))
  b_law_t121)

end K83

namespace K83
open DL
theorem wk_isW {k : Nat} (h : k < 100) : isW (119 :: digs (k : Int)) := by
  have l := digs_len (n := k) (k := 2) (by decide) h
  refine ⟨by simp, by rw [List.length_cons]; omega, fun c hc => ?_⟩
  rcases List.mem_cons.mp hc with rfl | hc
  · exact .inl rfl
  · exact .inr (digs_dig hc)
theorem wk_log {k : Nat} (h : k < 100) : (k : Int).natAbs.log2 < 1920 := by
  have : (k : Int).natAbs = k := by omega
  rw [this]
  exact Nat.lt_of_le_of_lt (Nat.log2_le_self k) (by omega)
theorem bar_scal : List.all [D.str [100, 101, 112, 116, 104], D.str [109, 111, 100, 117, 108, 101], D.str [103, 105, 118, 101, 110], D.str [115, 104, 111, 119, 110], D.str [110, 111, 116], D.str [99, 111, 117, 110, 116], D.str [115, 117, 109], D.str [109, 105, 110], D.str [109, 97, 120], D.str [110, 97, 109, 101], D.str [110, 117, 109, 98, 101, 114], D.str [98, 97, 115, 101]] D.scal = true := rfl
theorem vc__law_word : ∀ ds : List D, ds.length = 2 → S__law_word.pre ds → b__law_word { nx := fun _ => S__law_word.post ds .non, rt := S__law_word.post ds } (startD [false, false] ds 4) := by
  intro ds hl h
  match ds, h with
  | [p, x], h =>
  obtain ⟨hp, h⟩ : isTok p ∧ _ := h
  cases tok_is hp
  obtain ⟨xs, rfl⟩ := kLst_is h
  have h : xs.all D.scal = true := h
  have post : ∀ w, isW w → S__law_word.post [.tok, .lst xs] (.str w) := fun w h => ⟨w, rfl, h⟩
  generalize S__law_word.post [.tok, .lst xs] = Q at post
  simp only [b__law_word, b__law_word_t29, b__law_word_t30, r_wVar, r_wView, r_wOwn, r_wC, r_wFlat, r_wNewD, r_wNewT, r_wOp, r_wNeg, r_wIsN, r_wNotN, r_wIsB, r_wTest, r_wAnd, r_wOr, r_wNot, r_wAndV, r_wOrV, r_wNotV, r_wIf, r_wChain, r_wNil, r_wCons, r_wTup, r_wLst, r_wCall, r_wFn, r_wIsI, r_woN, r_woS, r_wSlice, r_wMt, r_wMt0, r_wRange1, r_wRange2, r_wItems, r_wBoIt, r_wOwIt, r_wKeys, r_gNm, r_gsNil, r_gsCons, r_gTp, r_wYes, r_wComp, r_wDComp, r_wDCompT, r_wNext, r_wSeq, r_wBreak, r_wCont, r_wExpr, r_wRet, r_wRetN, r_wIfS, r_wAsg, r_wOwnAsg, r_wFrz, r_wAppend, r_wInsert, r_wExtend, r_wClear, r_wClearT, r_wPopT, r_wPopTo, r_wSetIx, r_wFor, r_wForOw, r_fLen, r_fAbs, r_fMin2, r_fMax2, r_fInt, r_fStr, r_fList, r_fTuple, r_fDict, r_fAll, r_fAny, r_mCount, r_mRfind, r_mFind, r_mStarts, r_mEnds, r_mSplit, r_mJoin, r_mIsupper, r_mIsalnum, r_mIsalpha, r_mIsdigit, r_mLower, r_wipe, r_wipe2, oAdd, oSub, oMul, oMod, oFdiv, oPow, oEq, oNe, oLt, oLe, oGt, oGe, oIn, oNin, oIx, inD, frz, setIx, dicIt, boIt, owIt, startD, cellVw, cellSh, cellOw, kInt, kStr, kBl, kLst, kDic, kTup, plain2, scal2, D.scal, D.flat, D.isNon, D.isBl, D.isTy, D.dat, D.key, celOf, List.replicate, List.getElem?_cons_zero, List.getElem?_cons_succ, List.set_cons_zero, List.set_cons_succ, Option.getD_some, forall_exists_index, and_imp, forall_eq, forall_eq_apply_imp_iff, forall_apply_eq_imp_iff, if_true, if_false, Bool.not_true, Bool.not_false, Bool.not_eq_true', Bool.true_and, Bool.and_true, Bool.false_and, Bool.and_false, Bool.false_eq_true, Bool.true_eq_false, ite_true, ite_false, reduceIte, true_and, and_true, false_or, or_false, true_or, or_true, atD0, atD1, atD2, Option.some.injEq, List.length_map, all_int, all_str, all_chr, all_bl, all_words, beq_iff_eq, Int.reduceLT, Int.reduceLE, Int.reduceEq, Int.reduceNeg, Int.reduceBEq, Int.reduceToNat, Int.reducePow, Nat.reduceAdd, Nat.reduceLT, Nat.reduceLeDiff, Bool.not_eq_eq_eq_not, decide_eq_true_eq, List.length_cons, List.length_nil, un, bin, tri, isTok, SZ, D.dic.injEq, D.dit.injEq, D.str.injEq, D.int.injEq, D.lst.injEq, D.bl.injEq, eqv_str, eqv_int, eqv_bl, eqv_is, eqv_si, eqv_sn, eqv_in, beq_self_eq_true, List.cons.injEq, exists_eq_left', forall_eq', exists_eq', exists_eq_left, exists_eq_right, Bool.and_self, Bool.or_self, Bool.or_true, Bool.or_false]
  generalize hbar : [D.str [100, 101, 112, 116, 104], D.str [109, 111, 100, 117, 108, 101], D.str [103, 105, 118, 101, 110], D.str [115, 104, 111, 119, 110], D.str [110, 111, 116], D.str [99, 111, 117, 110, 116], D.str [115, 117, 109], D.str [109, 105, 110], D.str [109, 97, 120], D.str [110, 97, 109, 101], D.str [110, 117, 109, 98, 101, 114], D.str [98, 97, 115, 101]] = bar
  have hb : bar.all D.scal = true := by subst hbar; exact bar_scal
  clear hbar
  generalize hS : [97, 98, 99, 100, 101, 102, 103, 104, 105, 106, 107, 108, 109, 110, 111, 112, 113, 114, 115, 116, 117, 118, 119, 120, 121, 122, 48, 49, 50, 51, 52, 53, 54, 55, 56, 57] = S
  have s1 : S.length = 36 := by subst hS; rfl
  have s2 : ∀ c ∈ S, loC c = true ∨ diC c = true := by subst hS; decide
  clear hS
  have fin : ∀ Γ, (∃ w c5, Γ = [Cel.bo D.tok, .bo (.lst xs), .sh (.str S), .sh (.lst bar), .sh (.str w), c5] ∧ isW w) → b__law_word_t33 { nx := fun x => Q D.non, rt := Q } Γ := by
    rintro Γ ⟨w, c5, rfl, hw⟩
    simp only [b__law_word_t33, r_wVar, r_wView, r_wOwn, r_wC, r_wFlat, r_wNewD, r_wNewT, r_wOp, r_wNeg, r_wIsN, r_wNotN, r_wIsB, r_wTest, r_wAnd, r_wOr, r_wNot, r_wAndV, r_wOrV, r_wNotV, r_wIf, r_wChain, r_wNil, r_wCons, r_wTup, r_wLst, r_wCall, r_wFn, r_wIsI, r_woN, r_woS, r_wSlice, r_wMt, r_wMt0, r_wRange1, r_wRange2, r_wItems, r_wBoIt, r_wOwIt, r_wKeys, r_gNm, r_gsNil, r_gsCons, r_gTp, r_wYes, r_wComp, r_wDComp, r_wDCompT, r_wNext, r_wSeq, r_wBreak, r_wCont, r_wExpr, r_wRet, r_wRetN, r_wIfS, r_wAsg, r_wOwnAsg, r_wFrz, r_wAppend, r_wInsert, r_wExtend, r_wClear, r_wClearT, r_wPopT, r_wPopTo, r_wSetIx, r_wFor, r_wForOw, r_fLen, r_fAbs, r_fMin2, r_fMax2, r_fInt, r_fStr, r_fList, r_fTuple, r_fDict, r_fAll, r_fAny, r_mCount, r_mRfind, r_mFind, r_mStarts, r_mEnds, r_mSplit, r_mJoin, r_mIsupper, r_mIsalnum, r_mIsalpha, r_mIsdigit, r_mLower, r_wipe, r_wipe2, oAdd, oSub, oMul, oMod, oFdiv, oPow, oEq, oNe, oLt, oLe, oGt, oGe, oIn, oNin, oIx, inD, frz, setIx, dicIt, boIt, owIt, startD, cellVw, cellSh, cellOw, kInt, kStr, kBl, kLst, kDic, kTup, plain2, scal2, D.scal, D.flat, D.isNon, D.isBl, D.isTy, D.dat, D.key, celOf, List.replicate, List.getElem?_cons_zero, List.getElem?_cons_succ, List.set_cons_zero, List.set_cons_succ, Option.getD_some, forall_exists_index, and_imp, forall_eq, forall_eq_apply_imp_iff, forall_apply_eq_imp_iff, if_true, if_false, Bool.not_true, Bool.not_false, Bool.not_eq_true', Bool.true_and, Bool.and_true, Bool.false_and, Bool.and_false, Bool.false_eq_true, Bool.true_eq_false, ite_true, ite_false, reduceIte, true_and, and_true, false_or, or_false, true_or, or_true, atD0, atD1, atD2, Option.some.injEq, List.length_map, all_int, all_str, all_chr, all_bl, all_words, beq_iff_eq, Int.reduceLT, Int.reduceLE, Int.reduceEq, Int.reduceNeg, Int.reduceBEq, Int.reduceToNat, Int.reducePow, Nat.reduceAdd, Nat.reduceLT, Nat.reduceLeDiff, Bool.not_eq_eq_eq_not, decide_eq_true_eq, List.length_cons, List.length_nil, un, bin, tri, isTok, SZ, D.dic.injEq, D.dit.injEq, D.str.injEq, D.int.injEq, D.lst.injEq, D.bl.injEq, eqv_str, eqv_int, eqv_bl, eqv_is, eqv_si, eqv_sn, eqv_in, beq_self_eq_true, List.cons.injEq, exists_eq_left', forall_eq', exists_eq', exists_eq_left, exists_eq_right, Bool.and_self, Bool.or_self, Bool.or_true, Bool.or_false]
    refine forD_ind (fun ds Γ => (∀ d ∈ ds, ∃ k : Nat, d = .int k ∧ k < 100) ∧ ∃ w c5, Γ = [Cel.bo D.tok, .bo (.lst xs), .sh (.str S), .sh (.lst bar), .sh (.str w), c5] ∧ isW w) ?_ ?_ _ _ ?_
    · rintro Γ ⟨_, w, c5, rfl, hw⟩
      simp only [b__law_word_t37, r_wVar, r_wView, r_wOwn, r_wC, r_wFlat, r_wNewD, r_wNewT, r_wOp, r_wNeg, r_wIsN, r_wNotN, r_wIsB, r_wTest, r_wAnd, r_wOr, r_wNot, r_wAndV, r_wOrV, r_wNotV, r_wIf, r_wChain, r_wNil, r_wCons, r_wTup, r_wLst, r_wCall, r_wFn, r_wIsI, r_woN, r_woS, r_wSlice, r_wMt, r_wMt0, r_wRange1, r_wRange2, r_wItems, r_wBoIt, r_wOwIt, r_wKeys, r_gNm, r_gsNil, r_gsCons, r_gTp, r_wYes, r_wComp, r_wDComp, r_wDCompT, r_wNext, r_wSeq, r_wBreak, r_wCont, r_wExpr, r_wRet, r_wRetN, r_wIfS, r_wAsg, r_wOwnAsg, r_wFrz, r_wAppend, r_wInsert, r_wExtend, r_wClear, r_wClearT, r_wPopT, r_wPopTo, r_wSetIx, r_wFor, r_wForOw, r_fLen, r_fAbs, r_fMin2, r_fMax2, r_fInt, r_fStr, r_fList, r_fTuple, r_fDict, r_fAll, r_fAny, r_mCount, r_mRfind, r_mFind, r_mStarts, r_mEnds, r_mSplit, r_mJoin, r_mIsupper, r_mIsalnum, r_mIsalpha, r_mIsdigit, r_mLower, r_wipe, r_wipe2, oAdd, oSub, oMul, oMod, oFdiv, oPow, oEq, oNe, oLt, oLe, oGt, oGe, oIn, oNin, oIx, inD, frz, setIx, dicIt, boIt, owIt, startD, cellVw, cellSh, cellOw, kInt, kStr, kBl, kLst, kDic, kTup, plain2, scal2, D.scal, D.flat, D.isNon, D.isBl, D.isTy, D.dat, D.key, celOf, List.replicate, List.getElem?_cons_zero, List.getElem?_cons_succ, List.set_cons_zero, List.set_cons_succ, Option.getD_some, forall_exists_index, and_imp, forall_eq, forall_eq_apply_imp_iff, forall_apply_eq_imp_iff, if_true, if_false, Bool.not_true, Bool.not_false, Bool.not_eq_true', Bool.true_and, Bool.and_true, Bool.false_and, Bool.and_false, Bool.false_eq_true, Bool.true_eq_false, ite_true, ite_false, reduceIte, true_and, and_true, false_or, or_false, true_or, or_true, atD0, atD1, atD2, Option.some.injEq, List.length_map, all_int, all_str, all_chr, all_bl, all_words, beq_iff_eq, Int.reduceLT, Int.reduceLE, Int.reduceEq, Int.reduceNeg, Int.reduceBEq, Int.reduceToNat, Int.reducePow, Nat.reduceAdd, Nat.reduceLT, Nat.reduceLeDiff, Bool.not_eq_eq_eq_not, decide_eq_true_eq, List.length_cons, List.length_nil, un, bin, tri, isTok, SZ, D.dic.injEq, D.dit.injEq, D.str.injEq, D.int.injEq, D.lst.injEq, D.bl.injEq, eqv_str, eqv_int, eqv_bl, eqv_is, eqv_si, eqv_sn, eqv_in, beq_self_eq_true, List.cons.injEq, exists_eq_left', forall_eq', exists_eq', exists_eq_left, exists_eq_right, Bool.and_self, Bool.or_self, Bool.or_true, Bool.or_false]
      exact post _ hw
    · rintro d ds Γ N ⟨hd, w, c5, rfl, hw⟩ hN
      obtain ⟨k, rfl, hk⟩ := hd d (List.mem_cons_self ..)
      have l2 := hw.2.1
      simp only [b__law_word_l33, b__law_word_t36, b__law_word_t37, hb, h, r_wVar, r_wView, r_wOwn, r_wC, r_wFlat, r_wNewD, r_wNewT, r_wOp, r_wNeg, r_wIsN, r_wNotN, r_wIsB, r_wTest, r_wAnd, r_wOr, r_wNot, r_wAndV, r_wOrV, r_wNotV, r_wIf, r_wChain, r_wNil, r_wCons, r_wTup, r_wLst, r_wCall, r_wFn, r_wIsI, r_woN, r_woS, r_wSlice, r_wMt, r_wMt0, r_wRange1, r_wRange2, r_wItems, r_wBoIt, r_wOwIt, r_wKeys, r_gNm, r_gsNil, r_gsCons, r_gTp, r_wYes, r_wComp, r_wDComp, r_wDCompT, r_wNext, r_wSeq, r_wBreak, r_wCont, r_wExpr, r_wRet, r_wRetN, r_wIfS, r_wAsg, r_wOwnAsg, r_wFrz, r_wAppend, r_wInsert, r_wExtend, r_wClear, r_wClearT, r_wPopT, r_wPopTo, r_wSetIx, r_wFor, r_wForOw, r_fLen, r_fAbs, r_fMin2, r_fMax2, r_fInt, r_fStr, r_fList, r_fTuple, r_fDict, r_fAll, r_fAny, r_mCount, r_mRfind, r_mFind, r_mStarts, r_mEnds, r_mSplit, r_mJoin, r_mIsupper, r_mIsalnum, r_mIsalpha, r_mIsdigit, r_mLower, r_wipe, r_wipe2, oAdd, oSub, oMul, oMod, oFdiv, oPow, oEq, oNe, oLt, oLe, oGt, oGe, oIn, oNin, oIx, inD, frz, setIx, dicIt, boIt, owIt, startD, cellVw, cellSh, cellOw, kInt, kStr, kBl, kLst, kDic, kTup, plain2, scal2, D.scal, D.flat, D.isNon, D.isBl, D.isTy, D.dat, D.key, celOf, List.replicate, List.getElem?_cons_zero, List.getElem?_cons_succ, List.set_cons_zero, List.set_cons_succ, Option.getD_some, forall_exists_index, and_imp, forall_eq, forall_eq_apply_imp_iff, forall_apply_eq_imp_iff, if_true, if_false, Bool.not_true, Bool.not_false, Bool.not_eq_true', Bool.true_and, Bool.and_true, Bool.false_and, Bool.and_false, Bool.false_eq_true, Bool.true_eq_false, ite_true, ite_false, reduceIte, true_and, and_true, false_or, or_false, true_or, or_true, atD0, atD1, atD2, Option.some.injEq, List.length_map, all_int, all_str, all_chr, all_bl, all_words, beq_iff_eq, Int.reduceLT, Int.reduceLE, Int.reduceEq, Int.reduceNeg, Int.reduceBEq, Int.reduceToNat, Int.reducePow, Nat.reduceAdd, Nat.reduceLT, Nat.reduceLeDiff, Bool.not_eq_eq_eq_not, decide_eq_true_eq, List.length_cons, List.length_nil, un, bin, tri, isTok, SZ, D.dic.injEq, D.dit.injEq, D.str.injEq, D.int.injEq, D.lst.injEq, D.bl.injEq, eqv_str, eqv_int, eqv_bl, eqv_is, eqv_si, eqv_sn, eqv_in, beq_self_eq_true, List.cons.injEq, exists_eq_left', forall_eq', exists_eq', exists_eq_left, exists_eq_right, Bool.and_self, Bool.or_self, Bool.or_true, Bool.or_false]
      have nx : (k : Int).natAbs.log2 < 1920 ∧ 1 + (digs (k : Int)).length ≤ 16777216 ∧ N [Cel.bo D.tok, Cel.bo (D.lst xs), Cel.sh (D.str S), Cel.sh (D.lst bar), Cel.sh (D.str ([119] ++ digs (k : Int))), Cel.sh (D.int k)] :=
        ⟨wk_log hk, by have := (wk_isW hk).2.1; rw [List.length_cons] at this; omega, hN _ ⟨fun d h => hd d (List.mem_cons_of_mem _ h), _, _, rfl, wk_isW hk⟩⟩
      exact ite2 (fun _ => ⟨by omega, ite2 (fun _ => ite2 (fun _ => post _ hw) fun _ => nx) fun _ => nx⟩) fun _ => nx
    · refine ⟨fun d hd => ?_, _, _, rfl, hw⟩
      obtain ⟨k, hk, rfl⟩ := List.mem_map.mp hd
      exact ⟨k, rfl, by rw [List.mem_range] at hk; omega⟩
  simp only [draw_pre, draw_post, b__law_word_t31, r_wVar, r_wView, r_wOwn, r_wC, r_wFlat, r_wNewD, r_wNewT, r_wOp, r_wNeg, r_wIsN, r_wNotN, r_wIsB, r_wTest, r_wAnd, r_wOr, r_wNot, r_wAndV, r_wOrV, r_wNotV, r_wIf, r_wChain, r_wNil, r_wCons, r_wTup, r_wLst, r_wCall, r_wFn, r_wIsI, r_woN, r_woS, r_wSlice, r_wMt, r_wMt0, r_wRange1, r_wRange2, r_wItems, r_wBoIt, r_wOwIt, r_wKeys, r_gNm, r_gsNil, r_gsCons, r_gTp, r_wYes, r_wComp, r_wDComp, r_wDCompT, r_wNext, r_wSeq, r_wBreak, r_wCont, r_wExpr, r_wRet, r_wRetN, r_wIfS, r_wAsg, r_wOwnAsg, r_wFrz, r_wAppend, r_wInsert, r_wExtend, r_wClear, r_wClearT, r_wPopT, r_wPopTo, r_wSetIx, r_wFor, r_wForOw, r_fLen, r_fAbs, r_fMin2, r_fMax2, r_fInt, r_fStr, r_fList, r_fTuple, r_fDict, r_fAll, r_fAny, r_mCount, r_mRfind, r_mFind, r_mStarts, r_mEnds, r_mSplit, r_mJoin, r_mIsupper, r_mIsalnum, r_mIsalpha, r_mIsdigit, r_mLower, r_wipe, r_wipe2, oAdd, oSub, oMul, oMod, oFdiv, oPow, oEq, oNe, oLt, oLe, oGt, oGe, oIn, oNin, oIx, inD, frz, setIx, dicIt, boIt, owIt, startD, cellVw, cellSh, cellOw, kInt, kStr, kBl, kLst, kDic, kTup, plain2, scal2, D.scal, D.flat, D.isNon, D.isBl, D.isTy, D.dat, D.key, celOf, List.replicate, List.getElem?_cons_zero, List.getElem?_cons_succ, List.set_cons_zero, List.set_cons_succ, Option.getD_some, forall_exists_index, and_imp, forall_eq, forall_eq_apply_imp_iff, forall_apply_eq_imp_iff, if_true, if_false, Bool.not_true, Bool.not_false, Bool.not_eq_true', Bool.true_and, Bool.and_true, Bool.false_and, Bool.and_false, Bool.false_eq_true, Bool.true_eq_false, ite_true, ite_false, reduceIte, true_and, and_true, false_or, or_false, true_or, or_true, atD0, atD1, atD2, Option.some.injEq, List.length_map, all_int, all_str, all_chr, all_bl, all_words, beq_iff_eq, Int.reduceLT, Int.reduceLE, Int.reduceEq, Int.reduceNeg, Int.reduceBEq, Int.reduceToNat, Int.reducePow, Nat.reduceAdd, Nat.reduceLT, Nat.reduceLeDiff, Bool.not_eq_eq_eq_not, decide_eq_true_eq, List.length_cons, List.length_nil, un, bin, tri, isTok, SZ, D.dic.injEq, D.dit.injEq, D.str.injEq, D.int.injEq, D.lst.injEq, D.bl.injEq, eqv_str, eqv_int, eqv_bl, eqv_is, eqv_si, eqv_sn, eqv_in, beq_self_eq_true, List.cons.injEq, exists_eq_left', forall_eq', exists_eq', exists_eq_left, exists_eq_right, Bool.and_self, Bool.or_self, Bool.or_true, Bool.or_false]
  intro i i0 i1
  obtain ⟨c, ec, hc⟩ := atD_lt (xs := S) i0 (by omega)
  refine ⟨c, ec, fun j j0 j1 => ?_⟩
  obtain ⟨v, ev, hv⟩ := atD_lt (xs := [D.int 0, D.int 0, D.int 0, D.int 1, D.int 1, D.int 2, D.int 4, D.int 7]) j0 j1
  refine ⟨v, ev, ?_⟩
  have hv : ∃ n : Nat, v = .int n ∧ n ≤ 7 := by
    simp only [List.mem_cons, List.not_mem_nil, or_false] at hv
    rcases hv with rfl | rfl | rfl | rfl | rfl | rfl | rfl | rfl <;> first | exact ⟨0, rfl, by decide⟩ | exact ⟨1, rfl, by decide⟩ | exact ⟨2, rfl, by decide⟩ | exact ⟨4, rfl, by decide⟩ | exact ⟨7, rfl, by decide⟩
  obtain ⟨n, rfl, hn⟩ := hv
  show (_ ∧ _) ∧ _
  refine ⟨⟨by omega, by omega⟩, ?_⟩
  rw [Int.toNat_natCast]
  refine forD_ind (fun ds Γ => ∃ w c5, Γ = [Cel.bo D.tok, .bo (.lst xs), .sh (.str S), .sh (.lst bar), .sh (.str w), c5] ∧ 1 ≤ w.length ∧ w.length + ds.length ≤ 8 ∧ ∀ c ∈ w, loC c = true ∨ diC c = true) ?_ ?_ _ _ ?_
  · rintro Γ ⟨w, c5, rfl, l1, l2, l3⟩
    exact fin _ ⟨_, _, rfl, l1, by simpa using l2, l3⟩
  · rintro d ds Γ N ⟨w, c5, rfl, l1, l2, l3⟩ hN
    rw [List.length_cons] at l2
    simp only [b__law_word_l31, draw_pre, draw_post, r_wVar, r_wView, r_wOwn, r_wC, r_wFlat, r_wNewD, r_wNewT, r_wOp, r_wNeg, r_wIsN, r_wNotN, r_wIsB, r_wTest, r_wAnd, r_wOr, r_wNot, r_wAndV, r_wOrV, r_wNotV, r_wIf, r_wChain, r_wNil, r_wCons, r_wTup, r_wLst, r_wCall, r_wFn, r_wIsI, r_woN, r_woS, r_wSlice, r_wMt, r_wMt0, r_wRange1, r_wRange2, r_wItems, r_wBoIt, r_wOwIt, r_wKeys, r_gNm, r_gsNil, r_gsCons, r_gTp, r_wYes, r_wComp, r_wDComp, r_wDCompT, r_wNext, r_wSeq, r_wBreak, r_wCont, r_wExpr, r_wRet, r_wRetN, r_wIfS, r_wAsg, r_wOwnAsg, r_wFrz, r_wAppend, r_wInsert, r_wExtend, r_wClear, r_wClearT, r_wPopT, r_wPopTo, r_wSetIx, r_wFor, r_wForOw, r_fLen, r_fAbs, r_fMin2, r_fMax2, r_fInt, r_fStr, r_fList, r_fTuple, r_fDict, r_fAll, r_fAny, r_mCount, r_mRfind, r_mFind, r_mStarts, r_mEnds, r_mSplit, r_mJoin, r_mIsupper, r_mIsalnum, r_mIsalpha, r_mIsdigit, r_mLower, r_wipe, r_wipe2, oAdd, oSub, oMul, oMod, oFdiv, oPow, oEq, oNe, oLt, oLe, oGt, oGe, oIn, oNin, oIx, inD, frz, setIx, dicIt, boIt, owIt, startD, cellVw, cellSh, cellOw, kInt, kStr, kBl, kLst, kDic, kTup, plain2, scal2, D.scal, D.flat, D.isNon, D.isBl, D.isTy, D.dat, D.key, celOf, List.replicate, List.getElem?_cons_zero, List.getElem?_cons_succ, List.set_cons_zero, List.set_cons_succ, Option.getD_some, forall_exists_index, and_imp, forall_eq, forall_eq_apply_imp_iff, forall_apply_eq_imp_iff, if_true, if_false, Bool.not_true, Bool.not_false, Bool.not_eq_true', Bool.true_and, Bool.and_true, Bool.false_and, Bool.and_false, Bool.false_eq_true, Bool.true_eq_false, ite_true, ite_false, reduceIte, true_and, and_true, false_or, or_false, true_or, or_true, atD0, atD1, atD2, Option.some.injEq, List.length_map, all_int, all_str, all_chr, all_bl, all_words, beq_iff_eq, Int.reduceLT, Int.reduceLE, Int.reduceEq, Int.reduceNeg, Int.reduceBEq, Int.reduceToNat, Int.reducePow, Nat.reduceAdd, Nat.reduceLT, Nat.reduceLeDiff, Bool.not_eq_eq_eq_not, decide_eq_true_eq, List.length_cons, List.length_nil, un, bin, tri, isTok, SZ, D.dic.injEq, D.dit.injEq, D.str.injEq, D.int.injEq, D.lst.injEq, D.bl.injEq, eqv_str, eqv_int, eqv_bl, eqv_is, eqv_si, eqv_sn, eqv_in, beq_self_eq_true, List.cons.injEq, exists_eq_left', forall_eq', exists_eq', exists_eq_left, exists_eq_right, Bool.and_self, Bool.or_self, Bool.or_true, Bool.or_false]
    intro r r0 r1
    obtain ⟨e, ee, he⟩ := atD_lt (xs := S) r0 (by omega)
    refine ⟨by omega, e, ee, by omega, hN _ ⟨_, _, rfl, ?_, ?_, ?_⟩⟩
    · rw [List.length_append]; omega
    · rw [List.length_append]; show w.length + 1 + _ ≤ 8; omega
    · intro z hz
      rcases List.mem_append.mp hz with hz | hz
      · exact l3 z hz
      · have : z = e := by simpa using hz
        exact this ▸ s2 e he
  · refine ⟨_, _, rfl, Nat.le_refl _, ?_, ?_⟩
    · rw [List.length_map, List.length_range]; show 1 + _ ≤ 8; omega
    · intro z hz
      have : z = c := by simpa using hz
      exact this ▸ s2 c hc
/-! ### the atoms -/
def leaf (t : D) : Prop := (∃ i, t = .int i) ∨ ∃ s, t = .str s ∧ s.length ≤ 1000 ∧ asc s = true
def allW (ts : List D) : Prop := ∀ t ∈ ts, ∃ w, t = .str w ∧ isW w
theorem isW_asc {w : List Nat} (h : isW w) : asc w = true := List.all_eq_true.mpr fun c hc => by
  have := h.2.2 c hc
  unfold loC diC at this
  simp at this
  exact decide_eq_true (by omega)
theorem asc_app {a b : List Nat} (ha : asc a = true) (hb : asc b = true) : asc (a ++ b) = true := by
  unfold asc at *
  rw [List.all_append, ha, hb]; rfl
theorem asc_ok {s : List Nat} (h : asc s = true) : (s.all fun c => decide (c < 1114112)) = true := by
  unfold asc at h
  rw [List.all_eq_true] at *
  intro x hx
  have := of_decide_eq_true (h x hx)
  exact decide_eq_true (by omega)
theorem leaf_nbs {n : Nat} : ∀ {ts : List D}, (∀ t ∈ ts, leaf t) → D.nbs n ts = true
  | [], _ => by unfold D.nbs; rfl
  | t :: ts, h => by
    unfold D.nbs
    rw [leaf_nbs fun t ht => h t (List.mem_cons_of_mem _ ht), Bool.and_true]
    rcases h t (List.mem_cons_self ..) with ⟨i, rfl⟩ | ⟨s, rfl, _⟩ <;> cases n <;> rfl
theorem leaf_plains {n : Nat} : ∀ {ts : List D}, (∀ t ∈ ts, leaf t) → D.plains n ts = true
  | [], _ => by cases n <;> rfl
  | t :: ts, h => by
    have e : D.plains n (t :: ts) = (D.plain n t && D.plains n ts) := by cases n <;> rfl
    rw [e, leaf_plains fun t ht => h t (List.mem_cons_of_mem _ ht), Bool.and_true]
    rcases h t (List.mem_cons_self ..) with ⟨i, rfl⟩ | ⟨s, rfl, _, h⟩
    · cases n <;> rfl
    · have := asc_ok h
      cases n <;> exact this
theorem okA_mk {w : List Nat} {ts : List D} (hw : isW w) (l : ts.length ≤ 100) (h : ∀ t ∈ ts, leaf t) : okA (.tup [.str w, .tup ts]) := by
  refine ⟨?_, ⟨by simp, fun x hx => ?_⟩, ?_⟩
  · show D.nbs 7 [.str w, .tup ts] = true
    have : D.nb 7 (.tup ts) = true := leaf_nbs (n := 6) h
    unfold D.nbs D.nbs D.nbs
    rw [this]; rfl
  · simp only [List.mem_cons, List.not_mem_nil, or_false] at hx
    rcases hx with rfl | rfl
    · trivial
    · refine ⟨by omega, fun t ht => ?_⟩
      rcases h t ht with ⟨i, rfl⟩ | ⟨s, rfl, _⟩ <;> trivial
  · show (D.plain 58 (.str w) && (D.plain 58 (.tup ts) && true)) = true
    rw [show D.plain 58 (.tup ts) = true from leaf_plains (n := 57) h, show D.plain 58 (.str w) = true from asc_ok (isW_asc hw)]; rfl
theorem w_get {ts : List D} {i : Int} (h : allW ts) (h0 : 0 ≤ i) (h1 : i < ts.length) : ∃ w, atD ts i = some (.str w) ∧ isW w := by
  obtain ⟨v, e, hv⟩ := atD_lt h0 h1
  obtain ⟨w, rfl, hw⟩ := h v hv
  exact ⟨w, e, hw⟩
theorem w_last {ts : List D} (h : allW ts) (h1 : 1 ≤ ts.length) : ∃ w, atD ts (-1) = some (.str w) ∧ isW w := by
  obtain ⟨v, hv⟩ : ∃ v, ts[ts.length - 1]? = some v := ⟨_, List.getElem?_eq_getElem (by omega)⟩
  obtain ⟨w, rfl, hw⟩ := h v (List.mem_of_getElem? hv)
  refine ⟨w, ?_, hw⟩
  unfold atD ixN
  rw [if_neg (by decide), if_pos (by omega)]
  show ts[((-1 : Int) + (ts.length : Nat)).toNat]? = _
  rw [show ((-1 : Int) + (ts.length : Nat)).toNat = ts.length - 1 by omega]
  exact hv
theorem allW_app {ts : List D} {w : List Nat} (h : allW ts) (hw : isW w) : allW (ts ++ [.str w]) := fun t ht => by
  rcases List.mem_append.mp ht with ht | ht
  · exact h t ht
  · exact ⟨w, by simpa using ht, hw⟩
theorem allW_scal {ts : List D} (h : allW ts) : ts.all D.scal = true := List.all_eq_true.mpr fun t ht => by
  obtain ⟨w, rfl, _⟩ := h t ht; rfl
theorem leaf_app {ts : List D} {t : D} (h : ∀ x ∈ ts, leaf x) (ht : leaf t) : ∀ x ∈ ts ++ [t], leaf x := fun x hx => by
  rcases List.mem_append.mp hx with hx | hx
  · exact h x hx
  · have : x = t := by simpa using hx
    exact this ▸ ht
theorem word_pre {ts : List D} : S__law_word.pre [.tok, .lst ts] ↔ ts.all D.scal = true := by
  show True ∧ _ ↔ _
  exact ⟨fun h => h.2, fun h => ⟨trivial, h⟩⟩
theorem word_post {x y d : D} : S__law_word.post [x, y] d ↔ ∃ w, d = .str w ∧ isW w := Iff.rfl
end K83

namespace K83
open DL
theorem vc__law_drawn_atoms : ∀ ds : List D, ds.length = 1 → S__law_drawn_atoms.pre ds → b__law_drawn_atoms { nx := fun _ => S__law_drawn_atoms.post ds .non, rt := S__law_drawn_atoms.post ds } (startD [false] ds 8) := by
  intro ds hl h
  match ds, h with
  | [p], h =>
  cases tok_is h
  have post : ∀ xs, okAtoms xs → S__law_drawn_atoms.post [.tok] (.lst xs) := fun w h => ⟨w, rfl, h⟩
  generalize S__law_drawn_atoms.post [.tok] = Q at post
  simp only [b__law_drawn_atoms, b__law_drawn_atoms_t61, b__law_drawn_atoms_t62, draw_pre, draw_post, r_wVar, r_wView, r_wOwn, r_wC, r_wFlat, r_wNewD, r_wNewT, r_wOp, r_wNeg, r_wIsN, r_wNotN, r_wIsB, r_wTest, r_wAnd, r_wOr, r_wNot, r_wAndV, r_wOrV, r_wNotV, r_wIf, r_wChain, r_wNil, r_wCons, r_wTup, r_wLst, r_wCall, r_wFn, r_wIsI, r_woN, r_woS, r_wSlice, r_wMt, r_wMt0, r_wRange1, r_wRange2, r_wItems, r_wBoIt, r_wOwIt, r_wKeys, r_gNm, r_gsNil, r_gsCons, r_gTp, r_wYes, r_wComp, r_wDComp, r_wDCompT, r_wNext, r_wSeq, r_wBreak, r_wCont, r_wExpr, r_wRet, r_wRetN, r_wIfS, r_wAsg, r_wOwnAsg, r_wFrz, r_wAppend, r_wInsert, r_wExtend, r_wClear, r_wClearT, r_wPopT, r_wPopTo, r_wSetIx, r_wFor, r_wForOw, r_fLen, r_fAbs, r_fMin2, r_fMax2, r_fInt, r_fStr, r_fList, r_fTuple, r_fDict, r_fAll, r_fAny, r_mCount, r_mRfind, r_mFind, r_mStarts, r_mEnds, r_mSplit, r_mJoin, r_mIsupper, r_mIsalnum, r_mIsalpha, r_mIsdigit, r_mLower, r_wipe, r_wipe2, oAdd, oSub, oMul, oMod, oFdiv, oPow, oEq, oNe, oLt, oLe, oGt, oGe, oIn, oNin, oIx, inD, frz, setIx, dicIt, boIt, owIt, startD, cellVw, cellSh, cellOw, kInt, kStr, kBl, kLst, kDic, kTup, plain2, scal2, D.scal, D.flat, D.isNon, D.isBl, D.isTy, D.dat, D.key, celOf, List.replicate, List.getElem?_cons_zero, List.getElem?_cons_succ, List.set_cons_zero, List.set_cons_succ, Option.getD_some, forall_exists_index, and_imp, forall_eq, forall_eq_apply_imp_iff, forall_apply_eq_imp_iff, if_true, if_false, Bool.not_true, Bool.not_false, Bool.not_eq_true', Bool.true_and, Bool.and_true, Bool.false_and, Bool.and_false, Bool.false_eq_true, Bool.true_eq_false, ite_true, ite_false, reduceIte, true_and, and_true, false_or, or_false, true_or, or_true, atD0, atD1, atD2, Option.some.injEq, List.length_map, all_int, all_str, all_chr, all_bl, all_words, beq_iff_eq, Int.reduceLT, Int.reduceLE, Int.reduceEq, Int.reduceNeg, Int.reduceBEq, Int.reduceToNat, Int.reducePow, Nat.reduceAdd, Nat.reduceLT, Nat.reduceLeDiff, Bool.not_eq_eq_eq_not, decide_eq_true_eq, List.length_cons, List.length_nil, un, bin, tri, isTok, SZ, D.dic.injEq, D.dit.injEq, D.str.injEq, D.int.injEq, D.lst.injEq, D.bl.injEq, eqv_str, eqv_int, eqv_bl, eqv_is, eqv_si, eqv_sn, eqv_in, beq_self_eq_true, List.cons.injEq, exists_eq_left', forall_eq', exists_eq', exists_eq_left, exists_eq_right, Bool.and_self, Bool.or_self, Bool.or_true, Bool.or_false]
  intro a1 a2 n n0 n1
  refine ⟨⟨by omega, by omega⟩, ?_⟩
  refine forD_ind (fun ds Γ => ∃ tks ats c3 c4 c5 c6 c7 c8, Γ = [Cel.bo D.tok, .ow a1 (.lst tks), .ow a2 (.lst ats), c3, c4, c5, c6, c7, c8] ∧ allW tks ∧ tks.length + 8 * ds.length ≤ 100 ∧ (∀ a ∈ ats, okA a) ∧ 1 ≤ ats.length + ds.length ∧ ats.length + ds.length ≤ 50) ?_ ?_ _ _ ?_
  · rintro Γ ⟨tks, ats, c3, c4, c5, c6, c7, c8, rfl, h1, h2, h3, h4, h5⟩
    simp only [b__law_drawn_atoms_t73, r_wVar, r_wView, r_wOwn, r_wC, r_wFlat, r_wNewD, r_wNewT, r_wOp, r_wNeg, r_wIsN, r_wNotN, r_wIsB, r_wTest, r_wAnd, r_wOr, r_wNot, r_wAndV, r_wOrV, r_wNotV, r_wIf, r_wChain, r_wNil, r_wCons, r_wTup, r_wLst, r_wCall, r_wFn, r_wIsI, r_woN, r_woS, r_wSlice, r_wMt, r_wMt0, r_wRange1, r_wRange2, r_wItems, r_wBoIt, r_wOwIt, r_wKeys, r_gNm, r_gsNil, r_gsCons, r_gTp, r_wYes, r_wComp, r_wDComp, r_wDCompT, r_wNext, r_wSeq, r_wBreak, r_wCont, r_wExpr, r_wRet, r_wRetN, r_wIfS, r_wAsg, r_wOwnAsg, r_wFrz, r_wAppend, r_wInsert, r_wExtend, r_wClear, r_wClearT, r_wPopT, r_wPopTo, r_wSetIx, r_wFor, r_wForOw, r_fLen, r_fAbs, r_fMin2, r_fMax2, r_fInt, r_fStr, r_fList, r_fTuple, r_fDict, r_fAll, r_fAny, r_mCount, r_mRfind, r_mFind, r_mStarts, r_mEnds, r_mSplit, r_mJoin, r_mIsupper, r_mIsalnum, r_mIsalpha, r_mIsdigit, r_mLower, r_wipe, r_wipe2, oAdd, oSub, oMul, oMod, oFdiv, oPow, oEq, oNe, oLt, oLe, oGt, oGe, oIn, oNin, oIx, inD, frz, setIx, dicIt, boIt, owIt, startD, cellVw, cellSh, cellOw, kInt, kStr, kBl, kLst, kDic, kTup, plain2, scal2, D.scal, D.flat, D.isNon, D.isBl, D.isTy, D.dat, D.key, celOf, List.replicate, List.getElem?_cons_zero, List.getElem?_cons_succ, List.set_cons_zero, List.set_cons_succ, Option.getD_some, forall_exists_index, and_imp, forall_eq, forall_eq_apply_imp_iff, forall_apply_eq_imp_iff, if_true, if_false, Bool.not_true, Bool.not_false, Bool.not_eq_true', Bool.true_and, Bool.and_true, Bool.false_and, Bool.and_false, Bool.false_eq_true, Bool.true_eq_false, ite_true, ite_false, reduceIte, true_and, and_true, false_or, or_false, true_or, or_true, atD0, atD1, atD2, Option.some.injEq, List.length_map, all_int, all_str, all_chr, all_bl, all_words, beq_iff_eq, Int.reduceLT, Int.reduceLE, Int.reduceEq, Int.reduceNeg, Int.reduceBEq, Int.reduceToNat, Int.reducePow, Nat.reduceAdd, Nat.reduceLT, Nat.reduceLeDiff, Bool.not_eq_eq_eq_not, decide_eq_true_eq, List.length_cons, List.length_nil, un, bin, tri, isTok, SZ, D.dic.injEq, D.dit.injEq, D.str.injEq, D.int.injEq, D.lst.injEq, D.bl.injEq, eqv_str, eqv_int, eqv_bl, eqv_is, eqv_si, eqv_sn, eqv_in, beq_self_eq_true, List.cons.injEq, exists_eq_left', forall_eq', exists_eq', exists_eq_left, exists_eq_right, Bool.and_self, Bool.or_self, Bool.or_true, Bool.or_false]
    exact post _ ⟨by simpa using h4, by simp at h5; omega, h3⟩
  · rintro d ds Γ N ⟨tks, ats, c3, c4, c5, c6, c7, c8, rfl, h1, h2, h3, h4, h5⟩ hN
    rw [List.length_cons] at h2 h4 h5
    simp only [b__law_drawn_atoms_l62, word_pre, word_post, r_wVar, r_wView, r_wOwn, r_wC, r_wFlat, r_wNewD, r_wNewT, r_wOp, r_wNeg, r_wIsN, r_wNotN, r_wIsB, r_wTest, r_wAnd, r_wOr, r_wNot, r_wAndV, r_wOrV, r_wNotV, r_wIf, r_wChain, r_wNil, r_wCons, r_wTup, r_wLst, r_wCall, r_wFn, r_wIsI, r_woN, r_woS, r_wSlice, r_wMt, r_wMt0, r_wRange1, r_wRange2, r_wItems, r_wBoIt, r_wOwIt, r_wKeys, r_gNm, r_gsNil, r_gsCons, r_gTp, r_wYes, r_wComp, r_wDComp, r_wDCompT, r_wNext, r_wSeq, r_wBreak, r_wCont, r_wExpr, r_wRet, r_wRetN, r_wIfS, r_wAsg, r_wOwnAsg, r_wFrz, r_wAppend, r_wInsert, r_wExtend, r_wClear, r_wClearT, r_wPopT, r_wPopTo, r_wSetIx, r_wFor, r_wForOw, r_fLen, r_fAbs, r_fMin2, r_fMax2, r_fInt, r_fStr, r_fList, r_fTuple, r_fDict, r_fAll, r_fAny, r_mCount, r_mRfind, r_mFind, r_mStarts, r_mEnds, r_mSplit, r_mJoin, r_mIsupper, r_mIsalnum, r_mIsalpha, r_mIsdigit, r_mLower, r_wipe, r_wipe2, oAdd, oSub, oMul, oMod, oFdiv, oPow, oEq, oNe, oLt, oLe, oGt, oGe, oIn, oNin, oIx, inD, frz, setIx, dicIt, boIt, owIt, startD, cellVw, cellSh, cellOw, kInt, kStr, kBl, kLst, kDic, kTup, plain2, scal2, D.scal, D.flat, D.isNon, D.isBl, D.isTy, D.dat, D.key, celOf, List.replicate, List.getElem?_cons_zero, List.getElem?_cons_succ, List.set_cons_zero, List.set_cons_succ, Option.getD_some, forall_exists_index, and_imp, forall_eq, forall_eq_apply_imp_iff, forall_apply_eq_imp_iff, if_true, if_false, Bool.not_true, Bool.not_false, Bool.not_eq_true', Bool.true_and, Bool.and_true, Bool.false_and, Bool.and_false, Bool.false_eq_true, Bool.true_eq_false, ite_true, ite_false, reduceIte, true_and, and_true, false_or, or_false, true_or, or_true, atD0, atD1, atD2, Option.some.injEq, List.length_map, all_int, all_str, all_chr, all_bl, all_words, beq_iff_eq, Int.reduceLT, Int.reduceLE, Int.reduceEq, Int.reduceNeg, Int.reduceBEq, Int.reduceToNat, Int.reducePow, Nat.reduceAdd, Nat.reduceLT, Nat.reduceLeDiff, Bool.not_eq_eq_eq_not, decide_eq_true_eq, List.length_cons, List.length_nil, un, bin, tri, isTok, SZ, D.dic.injEq, D.dit.injEq, D.str.injEq, D.int.injEq, D.lst.injEq, D.bl.injEq, eqv_str, eqv_int, eqv_bl, eqv_is, eqv_si, eqv_sn, eqv_in, beq_self_eq_true, List.cons.injEq, exists_eq_left', forall_eq', exists_eq', exists_eq_left, exists_eq_right, Bool.and_self, Bool.or_self, Bool.or_true, Bool.or_false]
    refine ⟨allW_scal h1, fun w hw => ⟨by omega, ?_⟩⟩
    have h1 := allW_app h1 hw
    have h2 : (tks ++ [D.str w]).length + 7 + 8 * ds.length ≤ 100 := by rw [List.length_append]; show tks.length + 1 + 7 + _ ≤ 100; omega
    have hne : 1 ≤ (tks ++ [D.str w]).length := by rw [List.length_append]; show 1 ≤ tks.length + 1; omega
    generalize tks ++ [D.str w] = tks at h1 h2 hne ⊢
    obtain ⟨wa, ea, hwa⟩ := w_get (i := 0) h1 (Int.le_refl _) (by omega)
    obtain ⟨wb, eb, hwb⟩ := w_last h1 hne
    have go : ∀ (E : DEnds) nm, E.nx = N → isW nm → b__law_drawn_atoms_t65 E [Cel.bo D.tok, .ow a1 (.lst tks), .ow a2 (.lst ats), .sh d, .sh (.str nm), c5, c6, c7, c8] := by
      intro E nm hE hnm
      simp only [b__law_drawn_atoms_t65, b__law_drawn_atoms_t66, draw_pre, draw_post, r_wVar, r_wView, r_wOwn, r_wC, r_wFlat, r_wNewD, r_wNewT, r_wOp, r_wNeg, r_wIsN, r_wNotN, r_wIsB, r_wTest, r_wAnd, r_wOr, r_wNot, r_wAndV, r_wOrV, r_wNotV, r_wIf, r_wChain, r_wNil, r_wCons, r_wTup, r_wLst, r_wCall, r_wFn, r_wIsI, r_woN, r_woS, r_wSlice, r_wMt, r_wMt0, r_wRange1, r_wRange2, r_wItems, r_wBoIt, r_wOwIt, r_wKeys, r_gNm, r_gsNil, r_gsCons, r_gTp, r_wYes, r_wComp, r_wDComp, r_wDCompT, r_wNext, r_wSeq, r_wBreak, r_wCont, r_wExpr, r_wRet, r_wRetN, r_wIfS, r_wAsg, r_wOwnAsg, r_wFrz, r_wAppend, r_wInsert, r_wExtend, r_wClear, r_wClearT, r_wPopT, r_wPopTo, r_wSetIx, r_wFor, r_wForOw, r_fLen, r_fAbs, r_fMin2, r_fMax2, r_fInt, r_fStr, r_fList, r_fTuple, r_fDict, r_fAll, r_fAny, r_mCount, r_mRfind, r_mFind, r_mStarts, r_mEnds, r_mSplit, r_mJoin, r_mIsupper, r_mIsalnum, r_mIsalpha, r_mIsdigit, r_mLower, r_wipe, r_wipe2, oAdd, oSub, oMul, oMod, oFdiv, oPow, oEq, oNe, oLt, oLe, oGt, oGe, oIn, oNin, oIx, inD, frz, setIx, dicIt, boIt, owIt, startD, cellVw, cellSh, cellOw, kInt, kStr, kBl, kLst, kDic, kTup, plain2, scal2, D.scal, D.flat, D.isNon, D.isBl, D.isTy, D.dat, D.key, celOf, List.replicate, List.getElem?_cons_zero, List.getElem?_cons_succ, List.set_cons_zero, List.set_cons_succ, Option.getD_some, forall_exists_index, and_imp, forall_eq, forall_eq_apply_imp_iff, forall_apply_eq_imp_iff, if_true, if_false, Bool.not_true, Bool.not_false, Bool.not_eq_true', Bool.true_and, Bool.and_true, Bool.false_and, Bool.and_false, Bool.false_eq_true, Bool.true_eq_false, ite_true, ite_false, reduceIte, true_and, and_true, false_or, or_false, true_or, or_true, atD0, atD1, atD2, Option.some.injEq, List.length_map, all_int, all_str, all_chr, all_bl, all_words, beq_iff_eq, Int.reduceLT, Int.reduceLE, Int.reduceEq, Int.reduceNeg, Int.reduceBEq, Int.reduceToNat, Int.reducePow, Nat.reduceAdd, Nat.reduceLT, Nat.reduceLeDiff, Bool.not_eq_eq_eq_not, decide_eq_true_eq, List.length_cons, List.length_nil, un, bin, tri, isTok, SZ, D.dic.injEq, D.dit.injEq, D.str.injEq, D.int.injEq, D.lst.injEq, D.bl.injEq, eqv_str, eqv_int, eqv_bl, eqv_is, eqv_si, eqv_sn, eqv_in, beq_self_eq_true, List.cons.injEq, exists_eq_left', forall_eq', exists_eq', exists_eq_left, exists_eq_right, Bool.and_self, Bool.or_self, Bool.or_true, Bool.or_false]
      intro p x x0 x1
      refine ⟨⟨by omega, by omega⟩, ?_⟩
      refine forD_ind (fun es Γ => ∃ tks tms c6 c7 c8, Γ = [Cel.bo D.tok, .ow a1 (.lst tks), .ow a2 (.lst ats), .sh d, .sh (.str nm), .ow p (.lst tms), c6, c7, c8] ∧ allW tks ∧ 1 ≤ tks.length ∧ tks.length + es.length + 8 * ds.length ≤ 100 ∧ (∀ t ∈ tms, leaf t) ∧ tms.length + es.length ≤ 10) ?_ ?_ _ _ ?_
      · rintro Γ ⟨tks, tms, c6, c7, c8, rfl, g1, g2, g3, g4, g5⟩
        rw [List.length_nil] at g3 g5
        simp only [b__law_drawn_atoms_t72, hE, r_wVar, r_wView, r_wOwn, r_wC, r_wFlat, r_wNewD, r_wNewT, r_wOp, r_wNeg, r_wIsN, r_wNotN, r_wIsB, r_wTest, r_wAnd, r_wOr, r_wNot, r_wAndV, r_wOrV, r_wNotV, r_wIf, r_wChain, r_wNil, r_wCons, r_wTup, r_wLst, r_wCall, r_wFn, r_wIsI, r_woN, r_woS, r_wSlice, r_wMt, r_wMt0, r_wRange1, r_wRange2, r_wItems, r_wBoIt, r_wOwIt, r_wKeys, r_gNm, r_gsNil, r_gsCons, r_gTp, r_wYes, r_wComp, r_wDComp, r_wDCompT, r_wNext, r_wSeq, r_wBreak, r_wCont, r_wExpr, r_wRet, r_wRetN, r_wIfS, r_wAsg, r_wOwnAsg, r_wFrz, r_wAppend, r_wInsert, r_wExtend, r_wClear, r_wClearT, r_wPopT, r_wPopTo, r_wSetIx, r_wFor, r_wForOw, r_fLen, r_fAbs, r_fMin2, r_fMax2, r_fInt, r_fStr, r_fList, r_fTuple, r_fDict, r_fAll, r_fAny, r_mCount, r_mRfind, r_mFind, r_mStarts, r_mEnds, r_mSplit, r_mJoin, r_mIsupper, r_mIsalnum, r_mIsalpha, r_mIsdigit, r_mLower, r_wipe, r_wipe2, oAdd, oSub, oMul, oMod, oFdiv, oPow, oEq, oNe, oLt, oLe, oGt, oGe, oIn, oNin, oIx, inD, frz, setIx, dicIt, boIt, owIt, startD, cellVw, cellSh, cellOw, kInt, kStr, kBl, kLst, kDic, kTup, plain2, scal2, D.scal, D.flat, D.isNon, D.isBl, D.isTy, D.dat, D.key, celOf, List.replicate, List.getElem?_cons_zero, List.getElem?_cons_succ, List.set_cons_zero, List.set_cons_succ, Option.getD_some, forall_exists_index, and_imp, forall_eq, forall_eq_apply_imp_iff, forall_apply_eq_imp_iff, if_true, if_false, Bool.not_true, Bool.not_false, Bool.not_eq_true', Bool.true_and, Bool.and_true, Bool.false_and, Bool.and_false, Bool.false_eq_true, Bool.true_eq_false, ite_true, ite_false, reduceIte, true_and, and_true, false_or, or_false, true_or, or_true, atD0, atD1, atD2, Option.some.injEq, List.length_map, all_int, all_str, all_chr, all_bl, all_words, beq_iff_eq, Int.reduceLT, Int.reduceLE, Int.reduceEq, Int.reduceNeg, Int.reduceBEq, Int.reduceToNat, Int.reducePow, Nat.reduceAdd, Nat.reduceLT, Nat.reduceLeDiff, Bool.not_eq_eq_eq_not, decide_eq_true_eq, List.length_cons, List.length_nil, un, bin, tri, isTok, SZ, D.dic.injEq, D.dit.injEq, D.str.injEq, D.int.injEq, D.lst.injEq, D.bl.injEq, eqv_str, eqv_int, eqv_bl, eqv_is, eqv_si, eqv_sn, eqv_in, beq_self_eq_true, List.cons.injEq, exists_eq_left', forall_eq', exists_eq', exists_eq_left, exists_eq_right, Bool.and_self, Bool.or_self, Bool.or_true, Bool.or_false]
        refine ⟨by omega, hN _ ⟨_, _, _, _, _, _, _, _, rfl, g1, by omega, fun a ha => ?_, by rw [List.length_append]; show 1 ≤ ats.length + 1 + _; omega, by rw [List.length_append]; show ats.length + 1 + _ ≤ 50; omega⟩⟩
        rcases List.mem_append.mp ha with ha | ha
        · exact h3 a ha
        · have : a = .tup [.str nm, .tup tms] := by simpa using ha
          rw [this]
          exact okA_mk hnm (by omega) g4
      · rintro e es Γ N2 ⟨tks, tms, c6, c7, c8, rfl, g1, g2, g3, g4, g5⟩ hN2
        rw [List.length_cons] at g3 g5
        simp only [b__law_drawn_atoms_l66, word_pre, word_post, r_wVar, r_wView, r_wOwn, r_wC, r_wFlat, r_wNewD, r_wNewT, r_wOp, r_wNeg, r_wIsN, r_wNotN, r_wIsB, r_wTest, r_wAnd, r_wOr, r_wNot, r_wAndV, r_wOrV, r_wNotV, r_wIf, r_wChain, r_wNil, r_wCons, r_wTup, r_wLst, r_wCall, r_wFn, r_wIsI, r_woN, r_woS, r_wSlice, r_wMt, r_wMt0, r_wRange1, r_wRange2, r_wItems, r_wBoIt, r_wOwIt, r_wKeys, r_gNm, r_gsNil, r_gsCons, r_gTp, r_wYes, r_wComp, r_wDComp, r_wDCompT, r_wNext, r_wSeq, r_wBreak, r_wCont, r_wExpr, r_wRet, r_wRetN, r_wIfS, r_wAsg, r_wOwnAsg, r_wFrz, r_wAppend, r_wInsert, r_wExtend, r_wClear, r_wClearT, r_wPopT, r_wPopTo, r_wSetIx, r_wFor, r_wForOw, r_fLen, r_fAbs, r_fMin2, r_fMax2, r_fInt, r_fStr, r_fList, r_fTuple, r_fDict, r_fAll, r_fAny, r_mCount, r_mRfind, r_mFind, r_mStarts, r_mEnds, r_mSplit, r_mJoin, r_mIsupper, r_mIsalnum, r_mIsalpha, r_mIsdigit, r_mLower, r_wipe, r_wipe2, oAdd, oSub, oMul, oMod, oFdiv, oPow, oEq, oNe, oLt, oLe, oGt, oGe, oIn, oNin, oIx, inD, frz, setIx, dicIt, boIt, owIt, startD, cellVw, cellSh, cellOw, kInt, kStr, kBl, kLst, kDic, kTup, plain2, scal2, D.scal, D.flat, D.isNon, D.isBl, D.isTy, D.dat, D.key, celOf, List.replicate, List.getElem?_cons_zero, List.getElem?_cons_succ, List.set_cons_zero, List.set_cons_succ, Option.getD_some, forall_exists_index, and_imp, forall_eq, forall_eq_apply_imp_iff, forall_apply_eq_imp_iff, if_true, if_false, Bool.not_true, Bool.not_false, Bool.not_eq_true', Bool.true_and, Bool.and_true, Bool.false_and, Bool.and_false, Bool.false_eq_true, Bool.true_eq_false, ite_true, ite_false, reduceIte, true_and, and_true, false_or, or_false, true_or, or_true, atD0, atD1, atD2, Option.some.injEq, List.length_map, all_int, all_str, all_chr, all_bl, all_words, beq_iff_eq, Int.reduceLT, Int.reduceLE, Int.reduceEq, Int.reduceNeg, Int.reduceBEq, Int.reduceToNat, Int.reducePow, Nat.reduceAdd, Nat.reduceLT, Nat.reduceLeDiff, Bool.not_eq_eq_eq_not, decide_eq_true_eq, List.length_cons, List.length_nil, un, bin, tri, isTok, SZ, D.dic.injEq, D.dit.injEq, D.str.injEq, D.int.injEq, D.lst.injEq, D.bl.injEq, eqv_str, eqv_int, eqv_bl, eqv_is, eqv_si, eqv_sn, eqv_in, beq_self_eq_true, List.cons.injEq, exists_eq_left', forall_eq', exists_eq', exists_eq_left, exists_eq_right, Bool.and_self, Bool.or_self, Bool.or_true, Bool.or_false]
        refine ⟨allW_scal g1, fun w hw => ⟨by omega, ?_⟩⟩
        have g1 := allW_app g1 hw
        have g2 : 1 ≤ (tks ++ [D.str w]).length := by rw [List.length_append]; show 1 ≤ tks.length + 1; omega
        have g3 : (tks ++ [D.str w]).length + es.length + 8 * ds.length ≤ 100 := by rw [List.length_append]; show tks.length + 1 + _ + _ ≤ 100; omega
        generalize tks ++ [D.str w] = tks at g1 g2 g3 ⊢
        obtain ⟨wa, ea, hwa⟩ := w_get (i := 0) g1 (Int.le_refl _) (by omega)
        obtain ⟨wb, eb, hwb⟩ := w_last g1 g2
        simp only [b__law_drawn_atoms_t68, b__law_drawn_atoms_t69, draw_pre, draw_post, eb, r_wVar, r_wView, r_wOwn, r_wC, r_wFlat, r_wNewD, r_wNewT, r_wOp, r_wNeg, r_wIsN, r_wNotN, r_wIsB, r_wTest, r_wAnd, r_wOr, r_wNot, r_wAndV, r_wOrV, r_wNotV, r_wIf, r_wChain, r_wNil, r_wCons, r_wTup, r_wLst, r_wCall, r_wFn, r_wIsI, r_woN, r_woS, r_wSlice, r_wMt, r_wMt0, r_wRange1, r_wRange2, r_wItems, r_wBoIt, r_wOwIt, r_wKeys, r_gNm, r_gsNil, r_gsCons, r_gTp, r_wYes, r_wComp, r_wDComp, r_wDCompT, r_wNext, r_wSeq, r_wBreak, r_wCont, r_wExpr, r_wRet, r_wRetN, r_wIfS, r_wAsg, r_wOwnAsg, r_wFrz, r_wAppend, r_wInsert, r_wExtend, r_wClear, r_wClearT, r_wPopT, r_wPopTo, r_wSetIx, r_wFor, r_wForOw, r_fLen, r_fAbs, r_fMin2, r_fMax2, r_fInt, r_fStr, r_fList, r_fTuple, r_fDict, r_fAll, r_fAny, r_mCount, r_mRfind, r_mFind, r_mStarts, r_mEnds, r_mSplit, r_mJoin, r_mIsupper, r_mIsalnum, r_mIsalpha, r_mIsdigit, r_mLower, r_wipe, r_wipe2, oAdd, oSub, oMul, oMod, oFdiv, oPow, oEq, oNe, oLt, oLe, oGt, oGe, oIn, oNin, oIx, inD, frz, setIx, dicIt, boIt, owIt, startD, cellVw, cellSh, cellOw, kInt, kStr, kBl, kLst, kDic, kTup, plain2, scal2, D.scal, D.flat, D.isNon, D.isBl, D.isTy, D.dat, D.key, celOf, List.replicate, List.getElem?_cons_zero, List.getElem?_cons_succ, List.set_cons_zero, List.set_cons_succ, Option.getD_some, forall_exists_index, and_imp, forall_eq, forall_eq_apply_imp_iff, forall_apply_eq_imp_iff, if_true, if_false, Bool.not_true, Bool.not_false, Bool.not_eq_true', Bool.true_and, Bool.and_true, Bool.false_and, Bool.and_false, Bool.false_eq_true, Bool.true_eq_false, ite_true, ite_false, reduceIte, true_and, and_true, false_or, or_false, true_or, or_true, atD0, atD1, atD2, Option.some.injEq, List.length_map, all_int, all_str, all_chr, all_bl, all_words, beq_iff_eq, Int.reduceLT, Int.reduceLE, Int.reduceEq, Int.reduceNeg, Int.reduceBEq, Int.reduceToNat, Int.reducePow, Nat.reduceAdd, Nat.reduceLT, Nat.reduceLeDiff, Bool.not_eq_eq_eq_not, decide_eq_true_eq, List.length_cons, List.length_nil, un, bin, tri, isTok, SZ, D.dic.injEq, D.dit.injEq, D.str.injEq, D.int.injEq, D.lst.injEq, D.bl.injEq, eqv_str, eqv_int, eqv_bl, eqv_is, eqv_si, eqv_sn, eqv_in, beq_self_eq_true, List.cons.injEq, exists_eq_left', forall_eq', exists_eq', exists_eq_left, exists_eq_right, Bool.and_self, Bool.or_self, Bool.or_true, Bool.or_false]
        intro j j0 j1
        obtain ⟨v, ev, hv⟩ := atD_lt (xs := [D.int 0, D.int 0, D.int 1, D.int 2]) j0 j1
        refine ⟨v, ev, ?_⟩
        have hv : ∃ n : Nat, v = .int n ∧ n ≤ 2 := by
          simp only [List.mem_cons, List.not_mem_nil, or_false] at hv
          rcases hv with rfl | rfl | rfl | rfl <;> first | exact ⟨0, rfl, by decide⟩ | exact ⟨1, rfl, by decide⟩ | exact ⟨2, rfl, by decide⟩
        obtain ⟨m, rfl, hm⟩ := hv
        show (_ ∧ _) ∧ _
        refine ⟨⟨by omega, by omega⟩, ?_⟩
        rw [Int.toNat_natCast]
        refine forD_ind (fun fs Γ => ∃ t c8, Γ = [Cel.bo D.tok, .ow a1 (.lst tks), .ow a2 (.lst ats), .sh d, .sh (.str nm), .ow p (.lst tms), .sh e, .sh (.str t), c8] ∧ t.length + 20 * fs.length ≤ 100 ∧ asc t = true) ?_ ?_ _ _ ?_
        · rintro Γ ⟨t, c8, rfl, f1, f2⟩
          simp only [b__law_drawn_atoms_t71, draw_pre, draw_post, r_wVar, r_wView, r_wOwn, r_wC, r_wFlat, r_wNewD, r_wNewT, r_wOp, r_wNeg, r_wIsN, r_wNotN, r_wIsB, r_wTest, r_wAnd, r_wOr, r_wNot, r_wAndV, r_wOrV, r_wNotV, r_wIf, r_wChain, r_wNil, r_wCons, r_wTup, r_wLst, r_wCall, r_wFn, r_wIsI, r_woN, r_woS, r_wSlice, r_wMt, r_wMt0, r_wRange1, r_wRange2, r_wItems, r_wBoIt, r_wOwIt, r_wKeys, r_gNm, r_gsNil, r_gsCons, r_gTp, r_wYes, r_wComp, r_wDComp, r_wDCompT, r_wNext, r_wSeq, r_wBreak, r_wCont, r_wExpr, r_wRet, r_wRetN, r_wIfS, r_wAsg, r_wOwnAsg, r_wFrz, r_wAppend, r_wInsert, r_wExtend, r_wClear, r_wClearT, r_wPopT, r_wPopTo, r_wSetIx, r_wFor, r_wForOw, r_fLen, r_fAbs, r_fMin2, r_fMax2, r_fInt, r_fStr, r_fList, r_fTuple, r_fDict, r_fAll, r_fAny, r_mCount, r_mRfind, r_mFind, r_mStarts, r_mEnds, r_mSplit, r_mJoin, r_mIsupper, r_mIsalnum, r_mIsalpha, r_mIsdigit, r_mLower, r_wipe, r_wipe2, oAdd, oSub, oMul, oMod, oFdiv, oPow, oEq, oNe, oLt, oLe, oGt, oGe, oIn, oNin, oIx, inD, frz, setIx, dicIt, boIt, owIt, startD, cellVw, cellSh, cellOw, kInt, kStr, kBl, kLst, kDic, kTup, plain2, scal2, D.scal, D.flat, D.isNon, D.isBl, D.isTy, D.dat, D.key, celOf, List.replicate, List.getElem?_cons_zero, List.getElem?_cons_succ, List.set_cons_zero, List.set_cons_succ, Option.getD_some, forall_exists_index, and_imp, forall_eq, forall_eq_apply_imp_iff, forall_apply_eq_imp_iff, if_true, if_false, Bool.not_true, Bool.not_false, Bool.not_eq_true', Bool.true_and, Bool.and_true, Bool.false_and, Bool.and_false, Bool.false_eq_true, Bool.true_eq_false, ite_true, ite_false, reduceIte, true_and, and_true, false_or, or_false, true_or, or_true, atD0, atD1, atD2, Option.some.injEq, List.length_map, all_int, all_str, all_chr, all_bl, all_words, beq_iff_eq, Int.reduceLT, Int.reduceLE, Int.reduceEq, Int.reduceNeg, Int.reduceBEq, Int.reduceToNat, Int.reducePow, Nat.reduceAdd, Nat.reduceLT, Nat.reduceLeDiff, Bool.not_eq_eq_eq_not, decide_eq_true_eq, List.length_cons, List.length_nil, un, bin, tri, isTok, SZ, D.dic.injEq, D.dit.injEq, D.str.injEq, D.int.injEq, D.lst.injEq, D.bl.injEq, eqv_str, eqv_int, eqv_bl, eqv_is, eqv_si, eqv_sn, eqv_in, beq_self_eq_true, List.cons.injEq, exists_eq_left', forall_eq', exists_eq', exists_eq_left, exists_eq_right, Bool.and_self, Bool.or_self, Bool.or_true, Bool.or_false]
          intro y y0 y1
          refine ite2 (fun _ z z0 z1 => ⟨by omega, hN2 _ ⟨tks, _, _, _, _, rfl, g1, g2, by omega, leaf_app g4 (.inl ⟨z, rfl⟩), by rw [List.length_append]; show tms.length + 1 + _ ≤ 10; omega⟩⟩) fun _ => ⟨by omega, hN2 _ ⟨tks, _, _, _, _, rfl, g1, g2, by omega, leaf_app g4 (.inr ⟨t, rfl, by omega, f2⟩), by rw [List.length_append]; show tms.length + 1 + _ ≤ 10; omega⟩⟩
        · rintro f fs Γ N3 ⟨t, c8, rfl, f1, f2⟩ hN3
          rw [List.length_cons] at f1
          have la := hwa.2.1
          simp only [b__law_drawn_atoms_l69, ea, List.length_append, r_wVar, r_wView, r_wOwn, r_wC, r_wFlat, r_wNewD, r_wNewT, r_wOp, r_wNeg, r_wIsN, r_wNotN, r_wIsB, r_wTest, r_wAnd, r_wOr, r_wNot, r_wAndV, r_wOrV, r_wNotV, r_wIf, r_wChain, r_wNil, r_wCons, r_wTup, r_wLst, r_wCall, r_wFn, r_wIsI, r_woN, r_woS, r_wSlice, r_wMt, r_wMt0, r_wRange1, r_wRange2, r_wItems, r_wBoIt, r_wOwIt, r_wKeys, r_gNm, r_gsNil, r_gsCons, r_gTp, r_wYes, r_wComp, r_wDComp, r_wDCompT, r_wNext, r_wSeq, r_wBreak, r_wCont, r_wExpr, r_wRet, r_wRetN, r_wIfS, r_wAsg, r_wOwnAsg, r_wFrz, r_wAppend, r_wInsert, r_wExtend, r_wClear, r_wClearT, r_wPopT, r_wPopTo, r_wSetIx, r_wFor, r_wForOw, r_fLen, r_fAbs, r_fMin2, r_fMax2, r_fInt, r_fStr, r_fList, r_fTuple, r_fDict, r_fAll, r_fAny, r_mCount, r_mRfind, r_mFind, r_mStarts, r_mEnds, r_mSplit, r_mJoin, r_mIsupper, r_mIsalnum, r_mIsalpha, r_mIsdigit, r_mLower, r_wipe, r_wipe2, oAdd, oSub, oMul, oMod, oFdiv, oPow, oEq, oNe, oLt, oLe, oGt, oGe, oIn, oNin, oIx, inD, frz, setIx, dicIt, boIt, owIt, startD, cellVw, cellSh, cellOw, kInt, kStr, kBl, kLst, kDic, kTup, plain2, scal2, D.scal, D.flat, D.isNon, D.isBl, D.isTy, D.dat, D.key, celOf, List.replicate, List.getElem?_cons_zero, List.getElem?_cons_succ, List.set_cons_zero, List.set_cons_succ, Option.getD_some, forall_exists_index, and_imp, forall_eq, forall_eq_apply_imp_iff, forall_apply_eq_imp_iff, if_true, if_false, Bool.not_true, Bool.not_false, Bool.not_eq_true', Bool.true_and, Bool.and_true, Bool.false_and, Bool.and_false, Bool.false_eq_true, Bool.true_eq_false, ite_true, ite_false, reduceIte, true_and, and_true, false_or, or_false, true_or, or_true, atD0, atD1, atD2, Option.some.injEq, List.length_map, all_int, all_str, all_chr, all_bl, all_words, beq_iff_eq, Int.reduceLT, Int.reduceLE, Int.reduceEq, Int.reduceNeg, Int.reduceBEq, Int.reduceToNat, Int.reducePow, Nat.reduceAdd, Nat.reduceLT, Nat.reduceLeDiff, Bool.not_eq_eq_eq_not, decide_eq_true_eq, List.length_cons, List.length_nil, un, bin, tri, isTok, SZ, D.dic.injEq, D.dit.injEq, D.str.injEq, D.int.injEq, D.lst.injEq, D.bl.injEq, eqv_str, eqv_int, eqv_bl, eqv_is, eqv_si, eqv_sn, eqv_in, beq_self_eq_true, List.cons.injEq, exists_eq_left', forall_eq', exists_eq', exists_eq_left, exists_eq_right, Bool.and_self, Bool.or_self, Bool.or_true, Bool.or_false]
          refine ⟨by omega, by omega, by omega, hN3 _ ⟨_, _, rfl, ?_, ?_⟩⟩
          · rw [List.length_append, List.length_append, List.length_append]; show wa.length + 1 + t.length + 1 + _ ≤ 100; omega
          · exact asc_app (asc_app (asc_app (isW_asc hwa) rfl) f2) rfl
        · refine ⟨_, _, rfl, ?_, isW_asc hwb⟩
          have := hwb.2.1
          rw [List.length_map, List.length_range]; omega
      · refine ⟨tks, [], _, _, _, rfl, h1, hne, ?_, fun t ht => (List.not_mem_nil ht).elim, ?_⟩
        · rw [List.length_map, List.length_range]; omega
        · rw [List.length_map, List.length_range]; show 0 + _ ≤ 10; omega
    simp only [b__law_drawn_atoms_t64, draw_pre, draw_post, ea, eb, r_wVar, r_wView, r_wOwn, r_wC, r_wFlat, r_wNewD, r_wNewT, r_wOp, r_wNeg, r_wIsN, r_wNotN, r_wIsB, r_wTest, r_wAnd, r_wOr, r_wNot, r_wAndV, r_wOrV, r_wNotV, r_wIf, r_wChain, r_wNil, r_wCons, r_wTup, r_wLst, r_wCall, r_wFn, r_wIsI, r_woN, r_woS, r_wSlice, r_wMt, r_wMt0, r_wRange1, r_wRange2, r_wItems, r_wBoIt, r_wOwIt, r_wKeys, r_gNm, r_gsNil, r_gsCons, r_gTp, r_wYes, r_wComp, r_wDComp, r_wDCompT, r_wNext, r_wSeq, r_wBreak, r_wCont, r_wExpr, r_wRet, r_wRetN, r_wIfS, r_wAsg, r_wOwnAsg, r_wFrz, r_wAppend, r_wInsert, r_wExtend, r_wClear, r_wClearT, r_wPopT, r_wPopTo, r_wSetIx, r_wFor, r_wForOw, r_fLen, r_fAbs, r_fMin2, r_fMax2, r_fInt, r_fStr, r_fList, r_fTuple, r_fDict, r_fAll, r_fAny, r_mCount, r_mRfind, r_mFind, r_mStarts, r_mEnds, r_mSplit, r_mJoin, r_mIsupper, r_mIsalnum, r_mIsalpha, r_mIsdigit, r_mLower, r_wipe, r_wipe2, oAdd, oSub, oMul, oMod, oFdiv, oPow, oEq, oNe, oLt, oLe, oGt, oGe, oIn, oNin, oIx, inD, frz, setIx, dicIt, boIt, owIt, startD, cellVw, cellSh, cellOw, kInt, kStr, kBl, kLst, kDic, kTup, plain2, scal2, D.scal, D.flat, D.isNon, D.isBl, D.isTy, D.dat, D.key, celOf, List.replicate, List.getElem?_cons_zero, List.getElem?_cons_succ, List.set_cons_zero, List.set_cons_succ, Option.getD_some, forall_exists_index, and_imp, forall_eq, forall_eq_apply_imp_iff, forall_apply_eq_imp_iff, if_true, if_false, Bool.not_true, Bool.not_false, Bool.not_eq_true', Bool.true_and, Bool.and_true, Bool.false_and, Bool.and_false, Bool.false_eq_true, Bool.true_eq_false, ite_true, ite_false, reduceIte, true_and, and_true, false_or, or_false, true_or, or_true, atD0, atD1, atD2, Option.some.injEq, List.length_map, all_int, all_str, all_chr, all_bl, all_words, beq_iff_eq, Int.reduceLT, Int.reduceLE, Int.reduceEq, Int.reduceNeg, Int.reduceBEq, Int.reduceToNat, Int.reducePow, Nat.reduceAdd, Nat.reduceLT, Nat.reduceLeDiff, Bool.not_eq_eq_eq_not, decide_eq_true_eq, List.length_cons, List.length_nil, un, bin, tri, isTok, SZ, D.dic.injEq, D.dit.injEq, D.str.injEq, D.int.injEq, D.lst.injEq, D.bl.injEq, eqv_str, eqv_int, eqv_bl, eqv_is, eqv_si, eqv_sn, eqv_in, beq_self_eq_true, List.cons.injEq, exists_eq_left', forall_eq', exists_eq', exists_eq_left, exists_eq_right, Bool.and_self, Bool.or_self, Bool.or_true, Bool.or_false]
    exact fun x x0 x1 => ite2 (fun _ => go _ _ rfl hwa) fun _ => go _ _ rfl hwb
  · refine ⟨[], [], _, _, _, _, _, _, rfl, fun t ht => (List.not_mem_nil ht).elim, ?_, fun t ht => (List.not_mem_nil ht).elim, ?_, ?_⟩ <;> rw [List.length_map, List.length_range] <;> show _ ≤ _ <;> simp only [List.length_nil] <;> omega
end K83

namespace K83
open DL
def k3D (k : K3) : D := .tup [.int k.1, .int k.2.1, .int k.2.2]
theorem k3_ky (k : K3) : (k3D k).ky = true := rfl
theorem k3_nkey (k : K3) : (k3D k).nkey = true := rfl
theorem k3_inj {k l : K3} (h : k3D k = k3D l) : k = l := by
  obtain ⟨a, b, c⟩ := k
  obtain ⟨x, y, z⟩ := l
  cases h
  rfl
theorem isL_mk {k : K3} {act : List Nat} {a : D} {w : Int} (ha : okA a) (h : act = TELL ∨ act = TAKE) : isL (letD k act a w) := ⟨k, act, a, w, rfl, ha, h⟩
theorem keyL_mk (k : K3) (act : List Nat) (a : D) (w : Int) : keyL (letD k act a w) = k := rfl
/-- all but the last condition on a mail -/
def apart (ms : List D) : Prop := (∀ l ∈ ms, isL l) ∧ ∀ y ∈ ms, ∀ z ∈ ms, keyL y = keyL z → y = z
theorem apart_old {ms : List D} {l : D} (h : apart ms) (hl : l ∈ ms) : apart (ms ++ [l]) := by
  have e : ∀ x ∈ ms ++ [l], x ∈ ms := fun x hx => by
    rcases List.mem_append.mp hx with hx | hx
    · exact hx
    · have : x = l := by simpa using hx
      exact this ▸ hl
  exact ⟨fun x hx => h.1 x (e x hx), fun y hy z hz => h.2 y (e y hy) z (e z hz)⟩
theorem apart_new {ms : List D} {l : D} (h : apart ms) (hl : isL l) (hn : ∀ y ∈ ms, keyL y ≠ keyL l) : apart (ms ++ [l]) := by
  refine ⟨fun x hx => ?_, fun y hy z hz e => ?_⟩
  · rcases List.mem_append.mp hx with hx | hx
    · exact h.1 x hx
    · have : x = l := by simpa using hx
      exact this ▸ hl
  · rcases List.mem_append.mp hy with hy | hy <;> rcases List.mem_append.mp hz with hz | hz
    · exact h.2 y hy z hz e
    · have e2 : z = l := by simpa using hz
      exact absurd (e2 ▸ e) (hn y hy)
    · have e2 : y = l := by simpa using hy
      exact absurd (e2 ▸ e.symm) (hn z hz)
    · have e1 : y = l := by simpa using hy
      have e2 : z = l := by simpa using hz
      rw [e1, e2]
theorem vc__law_drawn_mail : ∀ ds : List D, ds.length = 3 → S__law_drawn_mail.pre ds → b__law_drawn_mail { nx := fun _ => S__law_drawn_mail.post ds .non, rt := S__law_drawn_mail.post ds } (startD [false, false, false] ds 6) := by
  intro ds hl h
  match ds, h with
  | [p, x, y], h =>
  obtain ⟨hp, hx, hy⟩ : isTok p ∧ (kLst x fun xs => okAtoms xs) ∧ _ := h
  cases tok_is hp
  obtain ⟨xs, rfl⟩ := kLst_is hx
  obtain ⟨n, rfl⟩ := kInt_is hy
  obtain ⟨x1, x2, x3⟩ : okAtoms xs := hx
  obtain ⟨n0, n1⟩ : 0 ≤ n ∧ n ≤ 200 := hy
  have xne : xs ≠ [] := List.length_pos_iff.mp x1
  have post : ∀ ms, okMail ms → S__law_drawn_mail.post [.tok, .lst xs, .int n] (.lst ms) := fun w h => ⟨w, rfl, h⟩
  generalize S__law_drawn_mail.post [.tok, .lst xs, .int n] = Q at post
  simp only [b__law_drawn_mail, b__law_drawn_mail_t76, b__law_drawn_mail_t77, r_wVar, r_wView, r_wOwn, r_wC, r_wFlat, r_wNewD, r_wNewT, r_wOp, r_wNeg, r_wIsN, r_wNotN, r_wIsB, r_wTest, r_wAnd, r_wOr, r_wNot, r_wAndV, r_wOrV, r_wNotV, r_wIf, r_wChain, r_wNil, r_wCons, r_wTup, r_wLst, r_wCall, r_wFn, r_wIsI, r_woN, r_woS, r_wSlice, r_wMt, r_wMt0, r_wRange1, r_wRange2, r_wItems, r_wBoIt, r_wOwIt, r_wKeys, r_gNm, r_gsNil, r_gsCons, r_gTp, r_wYes, r_wComp, r_wDComp, r_wDCompT, r_wNext, r_wSeq, r_wBreak, r_wCont, r_wExpr, r_wRet, r_wRetN, r_wIfS, r_wAsg, r_wOwnAsg, r_wFrz, r_wAppend, r_wInsert, r_wExtend, r_wClear, r_wClearT, r_wPopT, r_wPopTo, r_wSetIx, r_wFor, r_wForOw, r_fLen, r_fAbs, r_fMin2, r_fMax2, r_fInt, r_fStr, r_fList, r_fTuple, r_fDict, r_fAll, r_fAny, r_mCount, r_mRfind, r_mFind, r_mStarts, r_mEnds, r_mSplit, r_mJoin, r_mIsupper, r_mIsalnum, r_mIsalpha, r_mIsdigit, r_mLower, r_wipe, r_wipe2, oAdd, oSub, oMul, oMod, oFdiv, oPow, oEq, oNe, oLt, oLe, oGt, oGe, oIn, oNin, oIx, inD, frz, setIx, dicIt, boIt, owIt, startD, cellVw, cellSh, cellOw, kInt, kStr, kBl, kLst, kDic, kTup, plain2, scal2, D.scal, D.flat, D.isNon, D.isBl, D.isTy, D.dat, D.key, celOf, List.replicate, List.getElem?_cons_zero, List.getElem?_cons_succ, List.set_cons_zero, List.set_cons_succ, Option.getD_some, forall_exists_index, and_imp, forall_eq, forall_eq_apply_imp_iff, forall_apply_eq_imp_iff, if_true, if_false, Bool.not_true, Bool.not_false, Bool.not_eq_true', Bool.true_and, Bool.and_true, Bool.false_and, Bool.and_false, Bool.false_eq_true, Bool.true_eq_false, ite_true, ite_false, reduceIte, true_and, and_true, false_or, or_false, true_or, or_true, atD0, atD1, atD2, Option.some.injEq, List.length_map, all_int, all_str, all_chr, all_bl, all_words, beq_iff_eq, Int.reduceLT, Int.reduceLE, Int.reduceEq, Int.reduceNeg, Int.reduceBEq, Int.reduceToNat, Int.reducePow, Nat.reduceAdd, Nat.reduceLT, Nat.reduceLeDiff, Bool.not_eq_eq_eq_not, decide_eq_true_eq, List.length_cons, List.length_nil, un, bin, tri, isTok, SZ, D.dic.injEq, D.dit.injEq, D.str.injEq, D.int.injEq, D.lst.injEq, D.bl.injEq, eqv_str, eqv_int, eqv_bl, eqv_is, eqv_si, eqv_sn, eqv_in, beq_self_eq_true, List.cons.injEq, exists_eq_left', forall_eq', exists_eq', exists_eq_left, exists_eq_right, Bool.and_self, Bool.or_self, Bool.or_true, Bool.or_false]
  intro a1 a2
  refine ⟨⟨by omega, by omega⟩, ?_⟩
  refine forD_ind (fun ds Γ => ∃ ms kvs c5 c6 c7 c8, Γ = [Cel.bo D.tok, .bo (.lst xs), .bo (.int n), .ow a1 (.lst ms), .ow a2 (.dit kvs), c5, c6, c7, c8] ∧ apart ms ∧ Keyed kvs ∧ (∀ l ∈ ms, (look kvs (k3D (keyL l))).isSome = true) ∧ ms.length + ds.length ≤ 200 ∧ kvs.length + ds.length ≤ 200) ?_ ?_ _ _ ?_
  · rintro Γ ⟨ms, kvs, c5, c6, c7, c8, rfl, h1, h2, h3, h4, h5⟩
    simp only [b__law_drawn_mail_t86, r_wVar, r_wView, r_wOwn, r_wC, r_wFlat, r_wNewD, r_wNewT, r_wOp, r_wNeg, r_wIsN, r_wNotN, r_wIsB, r_wTest, r_wAnd, r_wOr, r_wNot, r_wAndV, r_wOrV, r_wNotV, r_wIf, r_wChain, r_wNil, r_wCons, r_wTup, r_wLst, r_wCall, r_wFn, r_wIsI, r_woN, r_woS, r_wSlice, r_wMt, r_wMt0, r_wRange1, r_wRange2, r_wItems, r_wBoIt, r_wOwIt, r_wKeys, r_gNm, r_gsNil, r_gsCons, r_gTp, r_wYes, r_wComp, r_wDComp, r_wDCompT, r_wNext, r_wSeq, r_wBreak, r_wCont, r_wExpr, r_wRet, r_wRetN, r_wIfS, r_wAsg, r_wOwnAsg, r_wFrz, r_wAppend, r_wInsert, r_wExtend, r_wClear, r_wClearT, r_wPopT, r_wPopTo, r_wSetIx, r_wFor, r_wForOw, r_fLen, r_fAbs, r_fMin2, r_fMax2, r_fInt, r_fStr, r_fList, r_fTuple, r_fDict, r_fAll, r_fAny, r_mCount, r_mRfind, r_mFind, r_mStarts, r_mEnds, r_mSplit, r_mJoin, r_mIsupper, r_mIsalnum, r_mIsalpha, r_mIsdigit, r_mLower, r_wipe, r_wipe2, oAdd, oSub, oMul, oMod, oFdiv, oPow, oEq, oNe, oLt, oLe, oGt, oGe, oIn, oNin, oIx, inD, frz, setIx, dicIt, boIt, owIt, startD, cellVw, cellSh, cellOw, kInt, kStr, kBl, kLst, kDic, kTup, plain2, scal2, D.scal, D.flat, D.isNon, D.isBl, D.isTy, D.dat, D.key, celOf, List.replicate, List.getElem?_cons_zero, List.getElem?_cons_succ, List.set_cons_zero, List.set_cons_succ, Option.getD_some, forall_exists_index, and_imp, forall_eq, forall_eq_apply_imp_iff, forall_apply_eq_imp_iff, if_true, if_false, Bool.not_true, Bool.not_false, Bool.not_eq_true', Bool.true_and, Bool.and_true, Bool.false_and, Bool.and_false, Bool.false_eq_true, Bool.true_eq_false, ite_true, ite_false, reduceIte, true_and, and_true, false_or, or_false, true_or, or_true, atD0, atD1, atD2, Option.some.injEq, List.length_map, all_int, all_str, all_chr, all_bl, all_words, beq_iff_eq, Int.reduceLT, Int.reduceLE, Int.reduceEq, Int.reduceNeg, Int.reduceBEq, Int.reduceToNat, Int.reducePow, Nat.reduceAdd, Nat.reduceLT, Nat.reduceLeDiff, Bool.not_eq_eq_eq_not, decide_eq_true_eq, List.length_cons, List.length_nil, un, bin, tri, isTok, SZ, D.dic.injEq, D.dit.injEq, D.str.injEq, D.int.injEq, D.lst.injEq, D.bl.injEq, eqv_str, eqv_int, eqv_bl, eqv_is, eqv_si, eqv_sn, eqv_in, beq_self_eq_true, List.cons.injEq, exists_eq_left', forall_eq', exists_eq', exists_eq_left, exists_eq_right, Bool.and_self, Bool.or_self, Bool.or_true, Bool.or_false]
    exact post _ ⟨by simp at h4; omega, h1⟩
  · rintro d ds Γ N ⟨ms, kvs, c5, c6, c7, c8, rfl, h1, h2, h3, h4, h5⟩ hN
    rw [List.length_cons] at h4 h5
    have go : ∀ (E : DEnds) (k : K3) (c6 : Cel), E.nx = N → b__law_drawn_mail_t80 E [Cel.bo D.tok, .bo (.lst xs), .bo (.int n), .ow a1 (.lst ms), .ow a2 (.dit kvs), .sh d, c6, .sh (k3D k), c8] := by
      intro E k c6 hE
      have kn := k3_nkey k
      have new : (look kvs (k3D k)).isSome = false → ∀ (act : List Nat) (a : D) (w : Int) (c5 c6 c7 c8 : Cel), (act = TELL ∨ act = TAKE) → a ∈ xs → N [Cel.bo D.tok, .bo (.lst xs), .bo (.int n), .ow a1 (.lst (ms ++ [letD k act a w])), .ow a2 (.dit (put kvs (k3D k) (.bl true))), c5, c6, c7, c8] := by
        intro hn act a w c5 c6 c7 c8 hact ha
        refine hN _ ⟨_, _, _, _, _, _, rfl, apart_new h1 (isL_mk (x3 a ha) hact) (fun y hy e => ?_), fun q hq => ?_, fun l hl => ?_, by rw [List.length_append]; show ms.length + 1 + _ ≤ _; omega, ?_⟩
        · rw [keyL_mk] at e
          have := h3 y hy
          rw [e, hn] at this
          cases this
        · rcases put_mem h2 (k3_ky k) hq with e | hq
          · rw [e]; exact k3_ky k
          · exact h2 q hq
        · rw [look_put h2 (k3_ky k) (k3_ky _)]
          by_cases c : (k3D k).eqv (k3D (keyL l)) = true
          · rw [if_pos c]; rfl
          · rw [if_neg c]
            rcases List.mem_append.mp hl with hl | hl
            · exact h3 l hl
            · have : l = letD k act a w := by simpa using hl
              subst this
              exact absurd ((eqv_key (k3_ky _) (k3_ky _)).2 rfl) c
        · have := put_len (kvs := kvs) (q := k3D k) (v := .bl true)
          omega
      simp only [b__law_drawn_mail_t80, b__law_drawn_mail_t84, b__law_drawn_mail_t85, draw_pre, draw_post, p_S_pick, q_S_pick, S_pick_pre, S_pick_post, kn, hE, r_wVar, r_wView, r_wOwn, r_wC, r_wFlat, r_wNewD, r_wNewT, r_wOp, r_wNeg, r_wIsN, r_wNotN, r_wIsB, r_wTest, r_wAnd, r_wOr, r_wNot, r_wAndV, r_wOrV, r_wNotV, r_wIf, r_wChain, r_wNil, r_wCons, r_wTup, r_wLst, r_wCall, r_wFn, r_wIsI, r_woN, r_woS, r_wSlice, r_wMt, r_wMt0, r_wRange1, r_wRange2, r_wItems, r_wBoIt, r_wOwIt, r_wKeys, r_gNm, r_gsNil, r_gsCons, r_gTp, r_wYes, r_wComp, r_wDComp, r_wDCompT, r_wNext, r_wSeq, r_wBreak, r_wCont, r_wExpr, r_wRet, r_wRetN, r_wIfS, r_wAsg, r_wOwnAsg, r_wFrz, r_wAppend, r_wInsert, r_wExtend, r_wClear, r_wClearT, r_wPopT, r_wPopTo, r_wSetIx, r_wFor, r_wForOw, r_fLen, r_fAbs, r_fMin2, r_fMax2, r_fInt, r_fStr, r_fList, r_fTuple, r_fDict, r_fAll, r_fAny, r_mCount, r_mRfind, r_mFind, r_mStarts, r_mEnds, r_mSplit, r_mJoin, r_mIsupper, r_mIsalnum, r_mIsalpha, r_mIsdigit, r_mLower, r_wipe, r_wipe2, oAdd, oSub, oMul, oMod, oFdiv, oPow, oEq, oNe, oLt, oLe, oGt, oGe, oIn, oNin, oIx, inD, frz, setIx, dicIt, boIt, owIt, startD, cellVw, cellSh, cellOw, kInt, kStr, kBl, kLst, kDic, kTup, plain2, scal2, D.scal, D.flat, D.isNon, D.isBl, D.isTy, D.dat, D.key, celOf, List.replicate, List.getElem?_cons_zero, List.getElem?_cons_succ, List.set_cons_zero, List.set_cons_succ, Option.getD_some, forall_exists_index, and_imp, forall_eq, forall_eq_apply_imp_iff, forall_apply_eq_imp_iff, if_true, if_false, Bool.not_true, Bool.not_false, Bool.not_eq_true', Bool.true_and, Bool.and_true, Bool.false_and, Bool.and_false, Bool.false_eq_true, Bool.true_eq_false, ite_true, ite_false, reduceIte, true_and, and_true, false_or, or_false, true_or, or_true, atD0, atD1, atD2, Option.some.injEq, List.length_map, all_int, all_str, all_chr, all_bl, all_words, beq_iff_eq, Int.reduceLT, Int.reduceLE, Int.reduceEq, Int.reduceNeg, Int.reduceBEq, Int.reduceToNat, Int.reducePow, Nat.reduceAdd, Nat.reduceLT, Nat.reduceLeDiff, Bool.not_eq_eq_eq_not, decide_eq_true_eq, List.length_cons, List.length_nil, un, bin, tri, isTok, SZ, D.dic.injEq, D.dit.injEq, D.str.injEq, D.int.injEq, D.lst.injEq, D.bl.injEq, eqv_str, eqv_int, eqv_bl, eqv_is, eqv_si, eqv_sn, eqv_in, beq_self_eq_true, List.cons.injEq, exists_eq_left', forall_eq', exists_eq', exists_eq_left, exists_eq_right, Bool.and_self, Bool.or_self, Bool.or_true, Bool.or_false]
      have els : if (look kvs (k3D k)).isSome = false then
              kvs.length < 16777216 ∧
                ∀ (x : Int),
                  0 ≤ x →
                    x < 3 →
                      if x = 0 then
                        (xs ≠ [] ∧ xs.length ≤ 1000000) ∧
                          ∀ (a : D), a ∈ xs → ∀ (x : Int), 0 ≤ x → x < 10 → oAdd (k3D k) (D.tup [D.str [116, 97, 107, 101], a, D.int x]) fun l => kLst (.lst ms) fun ms =>
                                      ms.length < 16777216 ∧ N [Cel.bo D.tok, Cel.bo (D.lst xs), Cel.bo (D.int n), Cel.ow a1 (D.lst (ms ++ [l])), Cel.ow a2 (D.dit (put kvs (k3D k) (D.bl true))), Cel.sh d, c6, Cel.sh (k3D k), Cel.sh (D.str [116, 97, 107, 101])]
                      else
                        (xs ≠ [] ∧ xs.length ≤ 1000000) ∧
                          ∀ (a : D), a ∈ xs → ∀ (x : Int), 0 ≤ x → x < 10 → oAdd (k3D k) (D.tup [D.str [116, 101, 108, 108], a, D.int x]) fun l => kLst (.lst ms) fun ms =>
                                      ms.length < 16777216 ∧ N [Cel.bo D.tok, Cel.bo (D.lst xs), Cel.bo (D.int n), Cel.ow a1 (D.lst (ms ++ [l])), Cel.ow a2 (D.dit (put kvs (k3D k) (D.bl true))), Cel.sh d, c6, Cel.sh (k3D k), Cel.sh (D.str [116, 101, 108, 108])]
              else N [Cel.bo D.tok, .bo (.lst xs), .bo (.int n), .ow a1 (.lst ms), .ow a2 (.dit kvs), .sh d, c6, .sh (k3D k), c8] := by
        refine ite2 (fun hn => ⟨by omega, fun x x0 x1 => ite2 (fun _ => ⟨⟨xne, by omega⟩, fun a ha y y0 y1 => ?_⟩) fun _ => ⟨⟨xne, by omega⟩, fun a ha y y0 y1 => ?_⟩⟩) fun _ => hN _ ⟨_, _, _, _, _, _, rfl, h1, h2, h3, by omega, by omega⟩
        · exact (show 3 + 3 ≤ 16777216 ∧ _ from ⟨by decide, (show _ ∧ _ from ⟨by omega, new hn TAKE a y _ _ _ _ (.inr rfl) ha⟩)⟩)
        · exact (show 3 + 3 ≤ 16777216 ∧ _ from ⟨by decide, (show _ ∧ _ from ⟨by omega, new hn TELL a y _ _ _ _ (.inl rfl) ha⟩)⟩)
      refine ite2 (fun c x x0 x1 => ite2 (fun _ => ⟨⟨fun e => by rw [e] at c; simp at c, by omega⟩, fun l hl => ⟨by omega, hN _ ⟨_, _, _, _, _, _, rfl, apart_old h1 hl, h2, fun q hq => ?_, by rw [List.length_append]; show ms.length + 1 + _ ≤ _; omega, by omega⟩⟩⟩) fun _ => els) fun _ => els
      rcases List.mem_append.mp hq with hq | hq
      · exact h3 q hq
      · have e : q = l := by simpa using hq
        rw [e]; exact h3 l hl
    simp only [b__law_drawn_mail_l77, b__law_drawn_mail_t79, draw_pre, draw_post, r_wVar, r_wView, r_wOwn, r_wC, r_wFlat, r_wNewD, r_wNewT, r_wOp, r_wNeg, r_wIsN, r_wNotN, r_wIsB, r_wTest, r_wAnd, r_wOr, r_wNot, r_wAndV, r_wOrV, r_wNotV, r_wIf, r_wChain, r_wNil, r_wCons, r_wTup, r_wLst, r_wCall, r_wFn, r_wIsI, r_woN, r_woS, r_wSlice, r_wMt, r_wMt0, r_wRange1, r_wRange2, r_wItems, r_wBoIt, r_wOwIt, r_wKeys, r_gNm, r_gsNil, r_gsCons, r_gTp, r_wYes, r_wComp, r_wDComp, r_wDCompT, r_wNext, r_wSeq, r_wBreak, r_wCont, r_wExpr, r_wRet, r_wRetN, r_wIfS, r_wAsg, r_wOwnAsg, r_wFrz, r_wAppend, r_wInsert, r_wExtend, r_wClear, r_wClearT, r_wPopT, r_wPopTo, r_wSetIx, r_wFor, r_wForOw, r_fLen, r_fAbs, r_fMin2, r_fMax2, r_fInt, r_fStr, r_fList, r_fTuple, r_fDict, r_fAll, r_fAny, r_mCount, r_mRfind, r_mFind, r_mStarts, r_mEnds, r_mSplit, r_mJoin, r_mIsupper, r_mIsalnum, r_mIsalpha, r_mIsdigit, r_mLower, r_wipe, r_wipe2, oAdd, oSub, oMul, oMod, oFdiv, oPow, oEq, oNe, oLt, oLe, oGt, oGe, oIn, oNin, oIx, inD, frz, setIx, dicIt, boIt, owIt, startD, cellVw, cellSh, cellOw, kInt, kStr, kBl, kLst, kDic, kTup, plain2, scal2, D.scal, D.flat, D.isNon, D.isBl, D.isTy, D.dat, D.key, celOf, List.replicate, List.getElem?_cons_zero, List.getElem?_cons_succ, List.set_cons_zero, List.set_cons_succ, Option.getD_some, forall_exists_index, and_imp, forall_eq, forall_eq_apply_imp_iff, forall_apply_eq_imp_iff, if_true, if_false, Bool.not_true, Bool.not_false, Bool.not_eq_true', Bool.true_and, Bool.and_true, Bool.false_and, Bool.and_false, Bool.false_eq_true, Bool.true_eq_false, ite_true, ite_false, reduceIte, true_and, and_true, false_or, or_false, true_or, or_true, atD0, atD1, atD2, Option.some.injEq, List.length_map, all_int, all_str, all_chr, all_bl, all_words, beq_iff_eq, Int.reduceLT, Int.reduceLE, Int.reduceEq, Int.reduceNeg, Int.reduceBEq, Int.reduceToNat, Int.reducePow, Nat.reduceAdd, Nat.reduceLT, Nat.reduceLeDiff, Bool.not_eq_eq_eq_not, decide_eq_true_eq, List.length_cons, List.length_nil, un, bin, tri, isTok, SZ, D.dic.injEq, D.dit.injEq, D.str.injEq, D.int.injEq, D.lst.injEq, D.bl.injEq, eqv_str, eqv_int, eqv_bl, eqv_is, eqv_si, eqv_sn, eqv_in, beq_self_eq_true, List.cons.injEq, exists_eq_left', forall_eq', exists_eq', exists_eq_left, exists_eq_right, Bool.and_self, Bool.or_self, Bool.or_true, Bool.or_false]
    have go2 : ∀ (E : DEnds) (f x y : Int), E.nx = N → b__law_drawn_mail_t80 E [Cel.bo D.tok, .bo (.lst xs), .bo (.int n), .ow a1 (.lst ms), .ow a2 (.dit kvs), .sh d, .sh (.int f), .sh (.tup [.int f, .int x, .int y]), c8] := fun E f x y h => go E (f, x, y) _ h
    exact fun x x0 x1 => ite2 (fun _ i i0 i1 j j0 j1 k k0 k1 => go2 _ _ _ _ rfl) fun _ i i0 i1 j j0 j1 k k0 k1 => go2 _ _ _ _ rfl
  · refine ⟨[], [], _, _, _, _, rfl, ⟨fun l hl => (List.not_mem_nil hl).elim, fun l hl => (List.not_mem_nil hl).elim⟩, fun l hl => (List.not_mem_nil hl).elim, fun l hl => (List.not_mem_nil hl).elim, ?_, ?_⟩ <;> rw [List.length_map, List.length_range] <;> simp only [List.length_nil] <;> omega
end K83

namespace K83
open DL
theorem nkey_tup {a : D} (h : a.nkey = true) : ∃ xs, a = .tup xs ∧ D.nbs 7 xs = true := by
  cases a <;> first | exact ⟨_, rfl, h⟩ | cases h
theorem act_ok {act : List Nat} (h : act = TELL ∨ act = TAKE) : (act.all fun c => decide (c < 1114112)) = true := by
  rcases h with rfl | rfl <;> decide
theorem isL_plain {l : D} (h : isL l) : l.plain 60 = true := by
  obtain ⟨k, act, a, w, rfl, ⟨_, _, h3⟩, h4⟩ := h
  show (true && (true && (true && ((act.all fun c => decide (c < 1114112)) && (D.plain 59 a && (true && true)))))) = true
  rw [h3, act_ok h4]; rfl
theorem isL_nb {l : D} (h : isL l) : l.nb 9 = true := by
  obtain ⟨k, act, a, w, rfl, ⟨h1, _, _⟩, h4⟩ := h
  obtain ⟨xs, rfl, h1'⟩ := nkey_tup h1
  show (true && (true && (true && (true && (D.nbs 7 xs && (true && true)))))) = true
  rw [h1']; rfl
theorem isL_eqv {l m : D} (h : isL l) (g : isL m) : l.eqv m = true ↔ l = m := nb_eqv l m 9 9 (isL_nb h) (isL_nb g)
theorem change_mail {ms : List D} {k : K3} {act act' : List Nat} {a a' : D} {w w' : Int} (h : okMail ms) (ho : letD k act a w ∈ ms) (hn : isL (letD k act' a' w')) :
    okMail (ms.map fun l => if l.eqv (letD k act a w) = true then letD k act' a' w' else l) := by
  have io := h.2.1 _ ho
  have e : ∀ l ∈ ms, keyL (if l.eqv (letD k act a w) = true then letD k act' a' w' else l) = keyL l := fun l hl => by
    by_cases c : l.eqv (letD k act a w) = true
    · rw [if_pos c, (isL_eqv (h.2.1 l hl) io).1 c]; rfl
    · rw [if_neg c]
  refine ⟨by rw [List.length_map]; exact h.1, fun l hl => ?_, fun y hy z hz q => ?_⟩
  · obtain ⟨l, hm, rfl⟩ := List.mem_map.mp hl
    by_cases c : l.eqv (letD k act a w) = true
    · rw [if_pos c]; exact hn
    · rw [if_neg c]; exact h.2.1 l hm
  · obtain ⟨y, my, rfl⟩ := List.mem_map.mp hy
    obtain ⟨z, mz, rfl⟩ := List.mem_map.mp hz
    rw [e y my, e z mz] at q
    rw [h.2.2 y my z mz q]
section
variable {x0 x1 x2 x3 x4 x5 : D}
theorem lA0 : atD [x0, x1, x2, x3, x4, x5] 0 = some x0 := rfl
theorem lA3 : atD [x0, x1, x2, x3, x4, x5] 3 = some x3 := rfl
theorem lA4 : atD [x0, x1, x2, x3, x4, x5] 4 = some x4 := rfl
theorem lA5 : atD [x0, x1, x2, x3, x4, x5] 5 = some x5 := rfl
theorem lC3 : cutD [x0, x1, x2, x3, x4, x5] none (some 3) = [x0, x1, x2] := rfl
theorem lC4 : cutD [x0, x1, x2, x3, x4, x5] none (some 4) = [x0, x1, x2, x3] := rfl
theorem lC5 : cutD [x0, x1, x2, x3, x4, x5] none (some 5) = [x0, x1, x2, x3, x4] := rfl
end
theorem vc__law_other_mail : ∀ ds : List D, ds.length = 3 → S__law_other_mail.pre ds → b__law_other_mail { nx := fun _ => S__law_other_mail.post ds .non, rt := S__law_other_mail.post ds } (startD [false, false, false] ds 4) := by
  intro ds hl h
  match ds, h with
  | [p, x, y], h =>
  obtain ⟨hp, hx, hy⟩ : isTok p ∧ (kLst x fun xs => okMail xs) ∧ kLst y fun xs => okAtoms xs := h
  cases tok_is hp
  obtain ⟨ms, rfl⟩ := kLst_is hx
  obtain ⟨xs, rfl⟩ := kLst_is hy
  have hx : okMail ms := hx
  obtain ⟨x1, x2, x3⟩ : okAtoms xs := hy
  have xne : xs ≠ [] := List.length_pos_iff.mp x1
  have post : ∀ ms', okMail ms' → S__law_other_mail.post [.tok, .lst ms, .lst xs] (.lst ms') := fun w h => ⟨w, rfl, h⟩
  generalize S__law_other_mail.post [.tok, .lst ms, .lst xs] = Q at post
  have hz := hx.1
  have e1 : ((ms.length : Nat) : Int) = 0 ↔ ms = [] := by
    rw [← List.length_eq_zero_iff]; omega
  obtain ⟨a0, ea, ha⟩ := atD_lt (xs := xs) (k := 0) (Int.le_refl _) (by omega)
  simp only [b__law_other_mail, b__law_other_mail_t90, ea, p_S_pick, q_S_pick, S_pick_pre, S_pick_post, r_wVar, r_wView, r_wOwn, r_wC, r_wFlat, r_wNewD, r_wNewT, r_wOp, r_wNeg, r_wIsN, r_wNotN, r_wIsB, r_wTest, r_wAnd, r_wOr, r_wNot, r_wAndV, r_wOrV, r_wNotV, r_wIf, r_wChain, r_wNil, r_wCons, r_wTup, r_wLst, r_wCall, r_wFn, r_wIsI, r_woN, r_woS, r_wSlice, r_wMt, r_wMt0, r_wRange1, r_wRange2, r_wItems, r_wBoIt, r_wOwIt, r_wKeys, r_gNm, r_gsNil, r_gsCons, r_gTp, r_wYes, r_wComp, r_wDComp, r_wDCompT, r_wNext, r_wSeq, r_wBreak, r_wCont, r_wExpr, r_wRet, r_wRetN, r_wIfS, r_wAsg, r_wOwnAsg, r_wFrz, r_wAppend, r_wInsert, r_wExtend, r_wClear, r_wClearT, r_wPopT, r_wPopTo, r_wSetIx, r_wFor, r_wForOw, r_fLen, r_fAbs, r_fMin2, r_fMax2, r_fInt, r_fStr, r_fList, r_fTuple, r_fDict, r_fAll, r_fAny, r_mCount, r_mRfind, r_mFind, r_mStarts, r_mEnds, r_mSplit, r_mJoin, r_mIsupper, r_mIsalnum, r_mIsalpha, r_mIsdigit, r_mLower, r_wipe, r_wipe2, oAdd, oSub, oMul, oMod, oFdiv, oPow, oEq, oNe, oLt, oLe, oGt, oGe, oIn, oNin, oIx, inD, frz, setIx, dicIt, boIt, owIt, startD, cellVw, cellSh, cellOw, kInt, kStr, kBl, kLst, kDic, kTup, plain2, scal2, D.scal, D.flat, D.isNon, D.isBl, D.isTy, D.dat, D.key, celOf, List.replicate, List.getElem?_cons_zero, List.getElem?_cons_succ, List.set_cons_zero, List.set_cons_succ, Option.getD_some, forall_exists_index, and_imp, forall_eq, forall_eq_apply_imp_iff, forall_apply_eq_imp_iff, if_true, if_false, Bool.not_true, Bool.not_false, Bool.not_eq_true', Bool.true_and, Bool.and_true, Bool.false_and, Bool.and_false, Bool.false_eq_true, Bool.true_eq_false, ite_true, ite_false, reduceIte, true_and, and_true, false_or, or_false, true_or, or_true, atD0, atD1, atD2, Option.some.injEq, List.length_map, all_int, all_str, all_chr, all_bl, all_words, beq_iff_eq, Int.reduceLT, Int.reduceLE, Int.reduceEq, Int.reduceNeg, Int.reduceBEq, Int.reduceToNat, Int.reducePow, Nat.reduceAdd, Nat.reduceLT, Nat.reduceLeDiff, Bool.not_eq_eq_eq_not, decide_eq_true_eq, List.length_cons, List.length_nil, un, bin, tri, isTok, SZ, D.dic.injEq, D.dit.injEq, D.str.injEq, D.int.injEq, D.lst.injEq, D.bl.injEq, eqv_str, eqv_int, eqv_bl, eqv_is, eqv_si, eqv_sn, eqv_in, beq_self_eq_true, List.cons.injEq, exists_eq_left', forall_eq', exists_eq', exists_eq_left, exists_eq_right, Bool.and_self, Bool.or_self, Bool.or_true, Bool.or_false]
  refine ite2 (fun c => ?_) fun c => ?_
  · refine post _ ⟨by simp, fun l hl => ?_, fun y hy z hz _ => ?_⟩
    · rw [List.mem_singleton] at hl
      rw [show l = letD (0, 1, 1) TELL a0 0 from hl]; exact isL_mk (x3 _ ha) (.inl rfl)
    · rw [List.mem_singleton] at hy hz
      rw [hy, hz]
  · have mne : ms ≠ [] := fun e => c (e1.2 e)
    refine ⟨⟨mne, by omega⟩, fun l hl => ?_⟩
    obtain ⟨k, act, a, w, rfl, la, lact⟩ := hx.2.1 l hl
    have fin : ∀ (E : DEnds) (act' : List Nat) (a' : D) (w' : Int) (c5 c6 : Cel), E.rt = Q → okA a' → (act' = TELL ∨ act' = TAKE) →
        b__law_other_mail_t97 E [Cel.bo .tok, .bo (.lst ms), .bo (.lst xs), .sh (letD k act a w), .sh (letD k act' a' w'), c5, c6] := by
      intro E act' a' w' c5 c6 hE ha' hact'
      have nl := isL_mk (k := k) (w := w') ha' hact'
      have ol := hx.2.1 _ hl
      have op := isL_plain ol
      have fi := post _ (change_mail hx hl nl)
      generalize letD k act' a' w' = nw at *
      generalize letD k act a w = od at *
      simp only [b__law_other_mail_t97, hE, r_wVar, r_wView, r_wOwn, r_wC, r_wFlat, r_wNewD, r_wNewT, r_wOp, r_wNeg, r_wIsN, r_wNotN, r_wIsB, r_wTest, r_wAnd, r_wOr, r_wNot, r_wAndV, r_wOrV, r_wNotV, r_wIf, r_wChain, r_wNil, r_wCons, r_wTup, r_wLst, r_wCall, r_wFn, r_wIsI, r_woN, r_woS, r_wSlice, r_wMt, r_wMt0, r_wRange1, r_wRange2, r_wItems, r_wBoIt, r_wOwIt, r_wKeys, r_gNm, r_gsNil, r_gsCons, r_gTp, r_wYes, r_wComp, r_wDComp, r_wDCompT, r_wNext, r_wSeq, r_wBreak, r_wCont, r_wExpr, r_wRet, r_wRetN, r_wIfS, r_wAsg, r_wOwnAsg, r_wFrz, r_wAppend, r_wInsert, r_wExtend, r_wClear, r_wClearT, r_wPopT, r_wPopTo, r_wSetIx, r_wFor, r_wForOw, r_fLen, r_fAbs, r_fMin2, r_fMax2, r_fInt, r_fStr, r_fList, r_fTuple, r_fDict, r_fAll, r_fAny, r_mCount, r_mRfind, r_mFind, r_mStarts, r_mEnds, r_mSplit, r_mJoin, r_mIsupper, r_mIsalnum, r_mIsalpha, r_mIsdigit, r_mLower, r_wipe, r_wipe2, oAdd, oSub, oMul, oMod, oFdiv, oPow, oEq, oNe, oLt, oLe, oGt, oGe, oIn, oNin, oIx, inD, frz, setIx, dicIt, boIt, owIt, startD, cellVw, cellSh, cellOw, kInt, kStr, kBl, kLst, kDic, kTup, plain2, scal2, D.scal, D.flat, D.isNon, D.isBl, D.isTy, D.dat, D.key, celOf, List.replicate, List.getElem?_cons_zero, List.getElem?_cons_succ, List.set_cons_zero, List.set_cons_succ, Option.getD_some, forall_exists_index, and_imp, forall_eq, forall_eq_apply_imp_iff, forall_apply_eq_imp_iff, if_true, if_false, Bool.not_true, Bool.not_false, Bool.not_eq_true', Bool.true_and, Bool.and_true, Bool.false_and, Bool.and_false, Bool.false_eq_true, Bool.true_eq_false, ite_true, ite_false, reduceIte, true_and, and_true, false_or, or_false, true_or, or_true, atD0, atD1, atD2, Option.some.injEq, List.length_map, all_int, all_str, all_chr, all_bl, all_words, beq_iff_eq, Int.reduceLT, Int.reduceLE, Int.reduceEq, Int.reduceNeg, Int.reduceBEq, Int.reduceToNat, Int.reducePow, Nat.reduceAdd, Nat.reduceLT, Nat.reduceLeDiff, Bool.not_eq_eq_eq_not, decide_eq_true_eq, List.length_cons, List.length_nil, un, bin, tri, isTok, SZ, D.dic.injEq, D.dit.injEq, D.str.injEq, D.int.injEq, D.lst.injEq, D.bl.injEq, eqv_str, eqv_int, eqv_bl, eqv_is, eqv_si, eqv_sn, eqv_in, beq_self_eq_true, List.cons.injEq, exists_eq_left', forall_eq', exists_eq', exists_eq_left, exists_eq_right, Bool.and_self, Bool.or_self, Bool.or_true, Bool.or_false]
      refine compD_ind (fun ds acc => ∃ done, ms = done ++ ds ∧ acc = done.map fun l => if l.eqv od = true then nw else l) ?_ ?_ _ _ ⟨[], rfl, rfl⟩
      · rintro acc ⟨done, e, rfl⟩
        rw [List.append_nil] at e
        subst e
        exact fi
      · rintro d ds acc N ⟨done, e, rfl⟩ hN
        have dm : d ∈ ms := by rw [e]; simp
        have dp := isL_plain (hx.2.1 d dm)
        have le : (done.map fun l => if l.eqv od = true then nw else l).length < 16777216 := by
          have := congrArg List.length e
          rw [List.length_append, List.length_cons] at this
          rw [List.length_map]; omega
        simp only [dp, op, r_wVar, r_wView, r_wOwn, r_wC, r_wFlat, r_wNewD, r_wNewT, r_wOp, r_wNeg, r_wIsN, r_wNotN, r_wIsB, r_wTest, r_wAnd, r_wOr, r_wNot, r_wAndV, r_wOrV, r_wNotV, r_wIf, r_wChain, r_wNil, r_wCons, r_wTup, r_wLst, r_wCall, r_wFn, r_wIsI, r_woN, r_woS, r_wSlice, r_wMt, r_wMt0, r_wRange1, r_wRange2, r_wItems, r_wBoIt, r_wOwIt, r_wKeys, r_gNm, r_gsNil, r_gsCons, r_gTp, r_wYes, r_wComp, r_wDComp, r_wDCompT, r_wNext, r_wSeq, r_wBreak, r_wCont, r_wExpr, r_wRet, r_wRetN, r_wIfS, r_wAsg, r_wOwnAsg, r_wFrz, r_wAppend, r_wInsert, r_wExtend, r_wClear, r_wClearT, r_wPopT, r_wPopTo, r_wSetIx, r_wFor, r_wForOw, r_fLen, r_fAbs, r_fMin2, r_fMax2, r_fInt, r_fStr, r_fList, r_fTuple, r_fDict, r_fAll, r_fAny, r_mCount, r_mRfind, r_mFind, r_mStarts, r_mEnds, r_mSplit, r_mJoin, r_mIsupper, r_mIsalnum, r_mIsalpha, r_mIsdigit, r_mLower, r_wipe, r_wipe2, oAdd, oSub, oMul, oMod, oFdiv, oPow, oEq, oNe, oLt, oLe, oGt, oGe, oIn, oNin, oIx, inD, frz, setIx, dicIt, boIt, owIt, startD, cellVw, cellSh, cellOw, kInt, kStr, kBl, kLst, kDic, kTup, plain2, scal2, D.scal, D.flat, D.isNon, D.isBl, D.isTy, D.dat, D.key, celOf, List.replicate, List.getElem?_cons_zero, List.getElem?_cons_succ, List.set_cons_zero, List.set_cons_succ, Option.getD_some, forall_exists_index, and_imp, forall_eq, forall_eq_apply_imp_iff, forall_apply_eq_imp_iff, if_true, if_false, Bool.not_true, Bool.not_false, Bool.not_eq_true', Bool.true_and, Bool.and_true, Bool.false_and, Bool.and_false, Bool.false_eq_true, Bool.true_eq_false, ite_true, ite_false, reduceIte, true_and, and_true, false_or, or_false, true_or, or_true, atD0, atD1, atD2, Option.some.injEq, List.length_map, all_int, all_str, all_chr, all_bl, all_words, beq_iff_eq, Int.reduceLT, Int.reduceLE, Int.reduceEq, Int.reduceNeg, Int.reduceBEq, Int.reduceToNat, Int.reducePow, Nat.reduceAdd, Nat.reduceLT, Nat.reduceLeDiff, Bool.not_eq_eq_eq_not, decide_eq_true_eq, List.length_cons, List.length_nil, un, bin, tri, isTok, SZ, D.dic.injEq, D.dit.injEq, D.str.injEq, D.int.injEq, D.lst.injEq, D.bl.injEq, eqv_str, eqv_int, eqv_bl, eqv_is, eqv_si, eqv_sn, eqv_in, beq_self_eq_true, List.cons.injEq, exists_eq_left', forall_eq', exists_eq', exists_eq_left, exists_eq_right, Bool.and_self, Bool.or_self, Bool.or_true, Bool.or_false]
        rw [List.length_map] at le
        have nx : ∀ z, (if d.eqv od = true then nw else d) = z → N (List.map (fun l => if l.eqv od = true then nw else l) done ++ [z]) := fun z hz => hN _ ⟨done ++ [d], by rw [e, List.append_assoc]; rfl, by rw [List.map_append, List.map_cons, List.map_nil, hz]⟩
        exact ite2 (fun c => ⟨le, nx _ (if_pos c)⟩) fun c => ⟨le, nx _ (if_neg c)⟩
    simp only [b__law_other_mail_t91, b__law_other_mail_t92, b__law_other_mail_t93, b__law_other_mail_t95, letD, lA3, lA4, lA5, lC3, lC4, lC5, draw_pre, draw_post, p_S_pick, q_S_pick, S_pick_pre, S_pick_post, r_wVar, r_wView, r_wOwn, r_wC, r_wFlat, r_wNewD, r_wNewT, r_wOp, r_wNeg, r_wIsN, r_wNotN, r_wIsB, r_wTest, r_wAnd, r_wOr, r_wNot, r_wAndV, r_wOrV, r_wNotV, r_wIf, r_wChain, r_wNil, r_wCons, r_wTup, r_wLst, r_wCall, r_wFn, r_wIsI, r_woN, r_woS, r_wSlice, r_wMt, r_wMt0, r_wRange1, r_wRange2, r_wItems, r_wBoIt, r_wOwIt, r_wKeys, r_gNm, r_gsNil, r_gsCons, r_gTp, r_wYes, r_wComp, r_wDComp, r_wDCompT, r_wNext, r_wSeq, r_wBreak, r_wCont, r_wExpr, r_wRet, r_wRetN, r_wIfS, r_wAsg, r_wOwnAsg, r_wFrz, r_wAppend, r_wInsert, r_wExtend, r_wClear, r_wClearT, r_wPopT, r_wPopTo, r_wSetIx, r_wFor, r_wForOw, r_fLen, r_fAbs, r_fMin2, r_fMax2, r_fInt, r_fStr, r_fList, r_fTuple, r_fDict, r_fAll, r_fAny, r_mCount, r_mRfind, r_mFind, r_mStarts, r_mEnds, r_mSplit, r_mJoin, r_mIsupper, r_mIsalnum, r_mIsalpha, r_mIsdigit, r_mLower, r_wipe, r_wipe2, oAdd, oSub, oMul, oMod, oFdiv, oPow, oEq, oNe, oLt, oLe, oGt, oGe, oIn, oNin, oIx, inD, frz, setIx, dicIt, boIt, owIt, startD, cellVw, cellSh, cellOw, kInt, kStr, kBl, kLst, kDic, kTup, plain2, scal2, D.scal, D.flat, D.isNon, D.isBl, D.isTy, D.dat, D.key, celOf, List.replicate, List.getElem?_cons_zero, List.getElem?_cons_succ, List.set_cons_zero, List.set_cons_succ, Option.getD_some, forall_exists_index, and_imp, forall_eq, forall_eq_apply_imp_iff, forall_apply_eq_imp_iff, if_true, if_false, Bool.not_true, Bool.not_false, Bool.not_eq_true', Bool.true_and, Bool.and_true, Bool.false_and, Bool.and_false, Bool.false_eq_true, Bool.true_eq_false, ite_true, ite_false, reduceIte, true_and, and_true, false_or, or_false, true_or, or_true, atD0, atD1, atD2, Option.some.injEq, List.length_map, all_int, all_str, all_chr, all_bl, all_words, beq_iff_eq, Int.reduceLT, Int.reduceLE, Int.reduceEq, Int.reduceNeg, Int.reduceBEq, Int.reduceToNat, Int.reducePow, Nat.reduceAdd, Nat.reduceLT, Nat.reduceLeDiff, Bool.not_eq_eq_eq_not, decide_eq_true_eq, List.length_cons, List.length_nil, un, bin, tri, isTok, SZ, D.dic.injEq, D.dit.injEq, D.str.injEq, D.int.injEq, D.lst.injEq, D.bl.injEq, eqv_str, eqv_int, eqv_bl, eqv_is, eqv_si, eqv_sn, eqv_in, beq_self_eq_true, List.cons.injEq, exists_eq_left', forall_eq', exists_eq', exists_eq_left, exists_eq_right, Bool.and_self, Bool.or_self, Bool.or_true, Bool.or_false]
    exact ite2 (fun _ => fun x x0 x1 => ite2 (fun _ y y0 y1 => ite2 (fun _ => ⟨⟨xne, by omega⟩, fun d hd => fin _ act d w _ _ rfl (x3 d hd) lact⟩) fun _ => fin _ act a _ _ _ rfl la lact) fun _ => ite2 (fun _ => ⟨⟨xne, by omega⟩, fun d hd => fin _ act d w _ _ rfl (x3 d hd) lact⟩) fun _ => fin _ TAKE a w _ _ rfl la (.inr rfl)) fun _ => fun x x0 x1 => ite2 (fun _ y y0 y1 => ite2 (fun _ => ⟨⟨xne, by omega⟩, fun d hd => fin _ act d w _ _ rfl (x3 d hd) lact⟩) fun _ => fin _ act a _ _ _ rfl la lact) fun _ => ite2 (fun _ => ⟨⟨xne, by omega⟩, fun d hd => fin _ act d w _ _ rfl (x3 d hd) lact⟩) fun _ => fin _ TELL a w _ _ rfl la (.inl rfl)
end K83

namespace K83
open DL
def allI (us : List D) : Prop := ∀ u ∈ us, ∃ i, u = .int i
theorem allI_app {us vs : List D} (h : allI us) (g : allI vs) : allI (us ++ vs) := fun u hu => by
  rcases List.mem_append.mp hu with hu | hu
  · exact h u hu
  · exact g u hu
theorem allI_nil : allI [] := fun u hu => (List.not_mem_nil hu).elim
theorem allI_cons {i : Int} {us : List D} (h : allI us) : allI (.int i :: us) := fun u hu => by
  rcases List.mem_cons.mp hu with rfl | hu
  · exact ⟨i, rfl⟩
  · exact h u hu
theorem allP_app {ps : List D} {i j : Int} (h : ∀ p ∈ ps, isPair p) : ∀ p ∈ ps ++ [.tup [.int i, .int j]], isPair p := fun p hp => by
  rcases List.mem_append.mp hp with hp | hp
  · exact h p hp
  · exact ⟨i, j, by simpa using hp⟩
theorem ne_len {α : Type} {xs : List α} (h : 1 ≤ xs.length) : xs ≠ [] := List.length_pos_iff.mp h
theorem vc__law_asked_pairs : ∀ ds : List D, ds.length = 2 → S__law_asked_pairs.pre ds → b__law_asked_pairs { nx := fun _ => S__law_asked_pairs.post ds .non, rt := S__law_asked_pairs.post ds } (startD [false, false] ds 7) := by
  intro ds hl h
  match ds, h with
  | [p, x], h =>
  obtain ⟨hp, hx⟩ : isTok p ∧ (kLst x fun xs => okMail xs) := h
  cases tok_is hp
  obtain ⟨ms, rfl⟩ := kLst_is hx
  have hx : okMail ms := hx
  have hz := hx.1
  have post : ∀ ps, 1 ≤ ps.length → ps.length ≤ 1000 → (∀ p ∈ ps, isPair p) → S__law_asked_pairs.post [.tok, .lst ms] (.lst ps) := fun w h1 h2 h3 => ⟨w, rfl, h1, h2, h3⟩
  generalize S__law_asked_pairs.post [.tok, .lst ms] = Q at post
  simp only [b__law_asked_pairs, b__law_asked_pairs_t100, SmallF, r_wVar, r_wView, r_wOwn, r_wC, r_wFlat, r_wNewD, r_wNewT, r_wOp, r_wNeg, r_wIsN, r_wNotN, r_wIsB, r_wTest, r_wAnd, r_wOr, r_wNot, r_wAndV, r_wOrV, r_wNotV, r_wIf, r_wChain, r_wNil, r_wCons, r_wTup, r_wLst, r_wCall, r_wFn, r_wIsI, r_woN, r_woS, r_wSlice, r_wMt, r_wMt0, r_wRange1, r_wRange2, r_wItems, r_wBoIt, r_wOwIt, r_wKeys, r_gNm, r_gsNil, r_gsCons, r_gTp, r_wYes, r_wComp, r_wDComp, r_wDCompT, r_wNext, r_wSeq, r_wBreak, r_wCont, r_wExpr, r_wRet, r_wRetN, r_wIfS, r_wAsg, r_wOwnAsg, r_wFrz, r_wAppend, r_wInsert, r_wExtend, r_wClear, r_wClearT, r_wPopT, r_wPopTo, r_wSetIx, r_wFor, r_wForOw, r_fLen, r_fAbs, r_fMin2, r_fMax2, r_fInt, r_fStr, r_fList, r_fTuple, r_fDict, r_fAll, r_fAny, r_mCount, r_mRfind, r_mFind, r_mStarts, r_mEnds, r_mSplit, r_mJoin, r_mIsupper, r_mIsalnum, r_mIsalpha, r_mIsdigit, r_mLower, r_wipe, r_wipe2, oAdd, oSub, oMul, oMod, oFdiv, oPow, oEq, oNe, oLt, oLe, oGt, oGe, oIn, oNin, oIx, inD, frz, setIx, dicIt, boIt, owIt, startD, cellVw, cellSh, cellOw, kInt, kStr, kBl, kLst, kDic, kTup, plain2, scal2, D.scal, D.flat, D.isNon, D.isBl, D.isTy, D.dat, D.key, celOf, List.replicate, List.getElem?_cons_zero, List.getElem?_cons_succ, List.set_cons_zero, List.set_cons_succ, Option.getD_some, forall_exists_index, and_imp, forall_eq, forall_eq_apply_imp_iff, forall_apply_eq_imp_iff, if_true, if_false, Bool.not_true, Bool.not_false, Bool.not_eq_true', Bool.true_and, Bool.and_true, Bool.false_and, Bool.and_false, Bool.false_eq_true, Bool.true_eq_false, ite_true, ite_false, reduceIte, true_and, and_true, false_or, or_false, true_or, or_true, atD0, atD1, atD2, Option.some.injEq, List.length_map, all_int, all_str, all_chr, all_bl, all_words, beq_iff_eq, Int.reduceLT, Int.reduceLE, Int.reduceEq, Int.reduceNeg, Int.reduceBEq, Int.reduceToNat, Int.reducePow, Nat.reduceAdd, Nat.reduceLT, Nat.reduceLeDiff, Bool.not_eq_eq_eq_not, decide_eq_true_eq, List.length_cons, List.length_nil, un, bin, tri, isTok, SZ, D.dic.injEq, D.dit.injEq, D.str.injEq, D.int.injEq, D.lst.injEq, D.bl.injEq, eqv_str, eqv_int, eqv_bl, eqv_is, eqv_si, eqv_sn, eqv_in, beq_self_eq_true, List.cons.injEq, exists_eq_left', forall_eq', exists_eq', exists_eq_left, exists_eq_right, Bool.and_self, Bool.or_self, Bool.or_true, Bool.or_false]
  refine ⟨by decide, ?_⟩
  refine forD_ind (fun ds Γ => (∀ d ∈ ds, d ∈ ms) ∧ ∃ us c3 c4 c5 c6 c7 c8, Γ = [Cel.bo D.tok, .bo (.lst ms), .sh (.lst us), c3, c4, c5, c6, c7, c8] ∧ allI us ∧ 1 ≤ us.length ∧ us.length + 3 * ds.length ≤ 40) ?_ ?_ _ _ ?_
  · rintro Γ ⟨_, us, c3, c4, c5, c6, c7, c8, rfl, h1, h2, h3⟩
    rw [List.length_nil] at h3
    have une := ne_len h2
    simp only [b__law_asked_pairs_t102, r_wVar, r_wView, r_wOwn, r_wC, r_wFlat, r_wNewD, r_wNewT, r_wOp, r_wNeg, r_wIsN, r_wNotN, r_wIsB, r_wTest, r_wAnd, r_wOr, r_wNot, r_wAndV, r_wOrV, r_wNotV, r_wIf, r_wChain, r_wNil, r_wCons, r_wTup, r_wLst, r_wCall, r_wFn, r_wIsI, r_woN, r_woS, r_wSlice, r_wMt, r_wMt0, r_wRange1, r_wRange2, r_wItems, r_wBoIt, r_wOwIt, r_wKeys, r_gNm, r_gsNil, r_gsCons, r_gTp, r_wYes, r_wComp, r_wDComp, r_wDCompT, r_wNext, r_wSeq, r_wBreak, r_wCont, r_wExpr, r_wRet, r_wRetN, r_wIfS, r_wAsg, r_wOwnAsg, r_wFrz, r_wAppend, r_wInsert, r_wExtend, r_wClear, r_wClearT, r_wPopT, r_wPopTo, r_wSetIx, r_wFor, r_wForOw, r_fLen, r_fAbs, r_fMin2, r_fMax2, r_fInt, r_fStr, r_fList, r_fTuple, r_fDict, r_fAll, r_fAny, r_mCount, r_mRfind, r_mFind, r_mStarts, r_mEnds, r_mSplit, r_mJoin, r_mIsupper, r_mIsalnum, r_mIsalpha, r_mIsdigit, r_mLower, r_wipe, r_wipe2, oAdd, oSub, oMul, oMod, oFdiv, oPow, oEq, oNe, oLt, oLe, oGt, oGe, oIn, oNin, oIx, inD, frz, setIx, dicIt, boIt, owIt, startD, cellVw, cellSh, cellOw, kInt, kStr, kBl, kLst, kDic, kTup, plain2, scal2, D.scal, D.flat, D.isNon, D.isBl, D.isTy, D.dat, D.key, celOf, List.replicate, List.getElem?_cons_zero, List.getElem?_cons_succ, List.set_cons_zero, List.set_cons_succ, Option.getD_some, forall_exists_index, and_imp, forall_eq, forall_eq_apply_imp_iff, forall_apply_eq_imp_iff, if_true, if_false, Bool.not_true, Bool.not_false, Bool.not_eq_true', Bool.true_and, Bool.and_true, Bool.false_and, Bool.and_false, Bool.false_eq_true, Bool.true_eq_false, ite_true, ite_false, reduceIte, true_and, and_true, false_or, or_false, true_or, or_true, atD0, atD1, atD2, Option.some.injEq, List.length_map, all_int, all_str, all_chr, all_bl, all_words, beq_iff_eq, Int.reduceLT, Int.reduceLE, Int.reduceEq, Int.reduceNeg, Int.reduceBEq, Int.reduceToNat, Int.reducePow, Nat.reduceAdd, Nat.reduceLT, Nat.reduceLeDiff, Bool.not_eq_eq_eq_not, decide_eq_true_eq, List.length_cons, List.length_nil, un, bin, tri, isTok, SZ, D.dic.injEq, D.dit.injEq, D.str.injEq, D.int.injEq, D.lst.injEq, D.bl.injEq, eqv_str, eqv_int, eqv_bl, eqv_is, eqv_si, eqv_sn, eqv_in, beq_self_eq_true, List.cons.injEq, exists_eq_left', forall_eq', exists_eq', exists_eq_left, exists_eq_right, Bool.and_self, Bool.or_self, Bool.or_true, Bool.or_false]
    refine ⟨⟨by split <;> omega, by split <;> omega⟩, ?_⟩
    refine compD_ind (fun ds acc => allI ds ∧ allI acc ∧ acc.length + ds.length ≤ 20) ?_ ?_ _ _ ?_
    · rintro acc ⟨_, g1, g2⟩
      rw [List.length_nil] at g2
      refine ⟨by decide, by omega, ?_⟩
      have g3 : allI (acc ++ [D.int ms.length, D.int (ms.length + 1), D.int 1000000000000000000000000000000000000000000000000000000000000]) := allI_app g1 (allI_cons (allI_cons (allI_cons allI_nil)))
      have g4 : 1 ≤ (acc ++ [D.int ms.length, D.int (ms.length + 1), D.int 1000000000000000000000000000000000000000000000000000000000000]).length := by rw [List.length_append]; show 1 ≤ acc.length + 3; omega
      have g5 : (acc ++ [D.int ms.length, D.int (ms.length + 1), D.int 1000000000000000000000000000000000000000000000000000000000000]).length ≤ 30 := by rw [List.length_append]; show acc.length + 3 ≤ 30; omega
      generalize acc ++ [D.int ms.length, D.int (ms.length + 1), D.int 1000000000000000000000000000000000000000000000000000000000000] = vs at g3 g4 g5 ⊢
      have vne := ne_len g4
      simp only [b__law_asked_pairs_t103, p_S_pick, q_S_pick, S_pick_pre, S_pick_post, r_wVar, r_wView, r_wOwn, r_wC, r_wFlat, r_wNewD, r_wNewT, r_wOp, r_wNeg, r_wIsN, r_wNotN, r_wIsB, r_wTest, r_wAnd, r_wOr, r_wNot, r_wAndV, r_wOrV, r_wNotV, r_wIf, r_wChain, r_wNil, r_wCons, r_wTup, r_wLst, r_wCall, r_wFn, r_wIsI, r_woN, r_woS, r_wSlice, r_wMt, r_wMt0, r_wRange1, r_wRange2, r_wItems, r_wBoIt, r_wOwIt, r_wKeys, r_gNm, r_gsNil, r_gsCons, r_gTp, r_wYes, r_wComp, r_wDComp, r_wDCompT, r_wNext, r_wSeq, r_wBreak, r_wCont, r_wExpr, r_wRet, r_wRetN, r_wIfS, r_wAsg, r_wOwnAsg, r_wFrz, r_wAppend, r_wInsert, r_wExtend, r_wClear, r_wClearT, r_wPopT, r_wPopTo, r_wSetIx, r_wFor, r_wForOw, r_fLen, r_fAbs, r_fMin2, r_fMax2, r_fInt, r_fStr, r_fList, r_fTuple, r_fDict, r_fAll, r_fAny, r_mCount, r_mRfind, r_mFind, r_mStarts, r_mEnds, r_mSplit, r_mJoin, r_mIsupper, r_mIsalnum, r_mIsalpha, r_mIsdigit, r_mLower, r_wipe, r_wipe2, oAdd, oSub, oMul, oMod, oFdiv, oPow, oEq, oNe, oLt, oLe, oGt, oGe, oIn, oNin, oIx, inD, frz, setIx, dicIt, boIt, owIt, startD, cellVw, cellSh, cellOw, kInt, kStr, kBl, kLst, kDic, kTup, plain2, scal2, D.scal, D.flat, D.isNon, D.isBl, D.isTy, D.dat, D.key, celOf, List.replicate, List.getElem?_cons_zero, List.getElem?_cons_succ, List.set_cons_zero, List.set_cons_succ, Option.getD_some, forall_exists_index, and_imp, forall_eq, forall_eq_apply_imp_iff, forall_apply_eq_imp_iff, if_true, if_false, Bool.not_true, Bool.not_false, Bool.not_eq_true', Bool.true_and, Bool.and_true, Bool.false_and, Bool.and_false, Bool.false_eq_true, Bool.true_eq_false, ite_true, ite_false, reduceIte, true_and, and_true, false_or, or_false, true_or, or_true, atD0, atD1, atD2, Option.some.injEq, List.length_map, all_int, all_str, all_chr, all_bl, all_words, beq_iff_eq, Int.reduceLT, Int.reduceLE, Int.reduceEq, Int.reduceNeg, Int.reduceBEq, Int.reduceToNat, Int.reducePow, Nat.reduceAdd, Nat.reduceLT, Nat.reduceLeDiff, Bool.not_eq_eq_eq_not, decide_eq_true_eq, List.length_cons, List.length_nil, un, bin, tri, isTok, SZ, D.dic.injEq, D.dit.injEq, D.str.injEq, D.int.injEq, D.lst.injEq, D.bl.injEq, eqv_str, eqv_int, eqv_bl, eqv_is, eqv_si, eqv_sn, eqv_in, beq_self_eq_true, List.cons.injEq, exists_eq_left', forall_eq', exists_eq', exists_eq_left, exists_eq_right, Bool.and_self, Bool.or_self, Bool.or_true, Bool.or_false]
      refine ite2 (fun c => ?_) fun c => ?_
      · refine compD_ind (fun ds acc => (∀ p ∈ acc, isPair p) ∧ (∀ d ∈ ds, ∃ i, d = .int i) ∧ 1 ≤ acc.length + ds.length ∧ acc.length + ds.length ≤ 20) ?_ ?_ _ _ ?_
        · rintro acc ⟨f1, _, f2, f3⟩
          rw [List.length_nil] at f2 f3
          exact post _ (by omega) (by omega) f1
        · rintro d ds acc N ⟨f1, f0, f2, f3⟩ hN
          rw [List.length_cons] at f2 f3
          obtain ⟨i, rfl⟩ := f0 d (List.mem_cons_self ..)
          simp only [p_S_pick, q_S_pick, S_pick_pre, S_pick_post, r_wVar, r_wView, r_wOwn, r_wC, r_wFlat, r_wNewD, r_wNewT, r_wOp, r_wNeg, r_wIsN, r_wNotN, r_wIsB, r_wTest, r_wAnd, r_wOr, r_wNot, r_wAndV, r_wOrV, r_wNotV, r_wIf, r_wChain, r_wNil, r_wCons, r_wTup, r_wLst, r_wCall, r_wFn, r_wIsI, r_woN, r_woS, r_wSlice, r_wMt, r_wMt0, r_wRange1, r_wRange2, r_wItems, r_wBoIt, r_wOwIt, r_wKeys, r_gNm, r_gsNil, r_gsCons, r_gTp, r_wYes, r_wComp, r_wDComp, r_wDCompT, r_wNext, r_wSeq, r_wBreak, r_wCont, r_wExpr, r_wRet, r_wRetN, r_wIfS, r_wAsg, r_wOwnAsg, r_wFrz, r_wAppend, r_wInsert, r_wExtend, r_wClear, r_wClearT, r_wPopT, r_wPopTo, r_wSetIx, r_wFor, r_wForOw, r_fLen, r_fAbs, r_fMin2, r_fMax2, r_fInt, r_fStr, r_fList, r_fTuple, r_fDict, r_fAll, r_fAny, r_mCount, r_mRfind, r_mFind, r_mStarts, r_mEnds, r_mSplit, r_mJoin, r_mIsupper, r_mIsalnum, r_mIsalpha, r_mIsdigit, r_mLower, r_wipe, r_wipe2, oAdd, oSub, oMul, oMod, oFdiv, oPow, oEq, oNe, oLt, oLe, oGt, oGe, oIn, oNin, oIx, inD, frz, setIx, dicIt, boIt, owIt, startD, cellVw, cellSh, cellOw, kInt, kStr, kBl, kLst, kDic, kTup, plain2, scal2, D.scal, D.flat, D.isNon, D.isBl, D.isTy, D.dat, D.key, celOf, List.replicate, List.getElem?_cons_zero, List.getElem?_cons_succ, List.set_cons_zero, List.set_cons_succ, Option.getD_some, forall_exists_index, and_imp, forall_eq, forall_eq_apply_imp_iff, forall_apply_eq_imp_iff, if_true, if_false, Bool.not_true, Bool.not_false, Bool.not_eq_true', Bool.true_and, Bool.and_true, Bool.false_and, Bool.and_false, Bool.false_eq_true, Bool.true_eq_false, ite_true, ite_false, reduceIte, true_and, and_true, false_or, or_false, true_or, or_true, atD0, atD1, atD2, Option.some.injEq, List.length_map, all_int, all_str, all_chr, all_bl, all_words, beq_iff_eq, Int.reduceLT, Int.reduceLE, Int.reduceEq, Int.reduceNeg, Int.reduceBEq, Int.reduceToNat, Int.reducePow, Nat.reduceAdd, Nat.reduceLT, Nat.reduceLeDiff, Bool.not_eq_eq_eq_not, decide_eq_true_eq, List.length_cons, List.length_nil, un, bin, tri, isTok, SZ, D.dic.injEq, D.dit.injEq, D.str.injEq, D.int.injEq, D.lst.injEq, D.bl.injEq, eqv_str, eqv_int, eqv_bl, eqv_is, eqv_si, eqv_sn, eqv_in, beq_self_eq_true, List.cons.injEq, exists_eq_left', forall_eq', exists_eq', exists_eq_left, exists_eq_right, Bool.and_self, Bool.or_self, Bool.or_true, Bool.or_false]
          refine ⟨⟨une, by omega⟩, fun u hu => ite2 (fun _ => ⟨⟨vne, by omega⟩, fun v hv => ⟨by omega, ?_⟩⟩) fun _ => ⟨by omega, ?_⟩⟩
          · obtain ⟨i, rfl⟩ := h1 u hu
            obtain ⟨j, rfl⟩ := g3 v hv
            exact hN _ ⟨allP_app f1, fun d hd => f0 d (List.mem_cons_of_mem _ hd), by rw [List.length_append]; show 1 ≤ acc.length + 1 + _; omega, by rw [List.length_append]; show acc.length + 1 + _ ≤ 20; omega⟩
          · obtain ⟨i, rfl⟩ := h1 u hu
            exact hN _ ⟨allP_app f1, fun d hd => f0 d (List.mem_cons_of_mem _ hd), by rw [List.length_append]; show 1 ≤ acc.length + 1 + _; omega, by rw [List.length_append]; show acc.length + 1 + _ ≤ 20; omega⟩
        · refine ⟨fun p hp => (List.not_mem_nil hp).elim, fun d hd => ?_, ?_, ?_⟩
          · obtain ⟨k, _, rfl⟩ := List.mem_map.mp hd
            exact ⟨_, rfl⟩
          · rw [List.length_map, List.length_range]; decide
          · rw [List.length_map, List.length_range]; decide
      · simp only [b__law_asked_pairs_t105, b__law_asked_pairs_t106, r_wVar, r_wView, r_wOwn, r_wC, r_wFlat, r_wNewD, r_wNewT, r_wOp, r_wNeg, r_wIsN, r_wNotN, r_wIsB, r_wTest, r_wAnd, r_wOr, r_wNot, r_wAndV, r_wOrV, r_wNotV, r_wIf, r_wChain, r_wNil, r_wCons, r_wTup, r_wLst, r_wCall, r_wFn, r_wIsI, r_woN, r_woS, r_wSlice, r_wMt, r_wMt0, r_wRange1, r_wRange2, r_wItems, r_wBoIt, r_wOwIt, r_wKeys, r_gNm, r_gsNil, r_gsCons, r_gTp, r_wYes, r_wComp, r_wDComp, r_wDCompT, r_wNext, r_wSeq, r_wBreak, r_wCont, r_wExpr, r_wRet, r_wRetN, r_wIfS, r_wAsg, r_wOwnAsg, r_wFrz, r_wAppend, r_wInsert, r_wExtend, r_wClear, r_wClearT, r_wPopT, r_wPopTo, r_wSetIx, r_wFor, r_wForOw, r_fLen, r_fAbs, r_fMin2, r_fMax2, r_fInt, r_fStr, r_fList, r_fTuple, r_fDict, r_fAll, r_fAny, r_mCount, r_mRfind, r_mFind, r_mStarts, r_mEnds, r_mSplit, r_mJoin, r_mIsupper, r_mIsalnum, r_mIsalpha, r_mIsdigit, r_mLower, r_wipe, r_wipe2, oAdd, oSub, oMul, oMod, oFdiv, oPow, oEq, oNe, oLt, oLe, oGt, oGe, oIn, oNin, oIx, inD, frz, setIx, dicIt, boIt, owIt, startD, cellVw, cellSh, cellOw, kInt, kStr, kBl, kLst, kDic, kTup, plain2, scal2, D.scal, D.flat, D.isNon, D.isBl, D.isTy, D.dat, D.key, celOf, List.replicate, List.getElem?_cons_zero, List.getElem?_cons_succ, List.set_cons_zero, List.set_cons_succ, Option.getD_some, forall_exists_index, and_imp, forall_eq, forall_eq_apply_imp_iff, forall_apply_eq_imp_iff, if_true, if_false, Bool.not_true, Bool.not_false, Bool.not_eq_true', Bool.true_and, Bool.and_true, Bool.false_and, Bool.and_false, Bool.false_eq_true, Bool.true_eq_false, ite_true, ite_false, reduceIte, true_and, and_true, false_or, or_false, true_or, or_true, atD0, atD1, atD2, Option.some.injEq, List.length_map, all_int, all_str, all_chr, all_bl, all_words, beq_iff_eq, Int.reduceLT, Int.reduceLE, Int.reduceEq, Int.reduceNeg, Int.reduceBEq, Int.reduceToNat, Int.reducePow, Nat.reduceAdd, Nat.reduceLT, Nat.reduceLeDiff, Bool.not_eq_eq_eq_not, decide_eq_true_eq, List.length_cons, List.length_nil, un, bin, tri, isTok, SZ, D.dic.injEq, D.dit.injEq, D.str.injEq, D.int.injEq, D.lst.injEq, D.bl.injEq, eqv_str, eqv_int, eqv_bl, eqv_is, eqv_si, eqv_sn, eqv_in, beq_self_eq_true, List.cons.injEq, exists_eq_left', forall_eq', exists_eq', exists_eq_left, exists_eq_right, Bool.and_self, Bool.or_self, Bool.or_true, Bool.or_false]
        intro a1
        refine forD_ind (fun ds Γ => (∀ d ∈ ds, d ∈ us) ∧ ∃ ps c6 c7 c8, Γ = [Cel.bo D.tok, .bo (.lst ms), .sh (.lst us), c3, .sh (.lst vs), .ow a1 (.lst ps), c6, c7, c8] ∧ (∀ p ∈ ps, isPair p) ∧ 1 ≤ ps.length ∧ ps.length + ds.length ≤ 50) ?_ ?_ _ _ ?_
        · rintro Γ ⟨_, ps, c6, c7, c8, rfl, f1, f2, f3⟩
          rw [List.length_nil] at f3
          simp only [b__law_asked_pairs_t108, r_wVar, r_wView, r_wOwn, r_wC, r_wFlat, r_wNewD, r_wNewT, r_wOp, r_wNeg, r_wIsN, r_wNotN, r_wIsB, r_wTest, r_wAnd, r_wOr, r_wNot, r_wAndV, r_wOrV, r_wNotV, r_wIf, r_wChain, r_wNil, r_wCons, r_wTup, r_wLst, r_wCall, r_wFn, r_wIsI, r_woN, r_woS, r_wSlice, r_wMt, r_wMt0, r_wRange1, r_wRange2, r_wItems, r_wBoIt, r_wOwIt, r_wKeys, r_gNm, r_gsNil, r_gsCons, r_gTp, r_wYes, r_wComp, r_wDComp, r_wDCompT, r_wNext, r_wSeq, r_wBreak, r_wCont, r_wExpr, r_wRet, r_wRetN, r_wIfS, r_wAsg, r_wOwnAsg, r_wFrz, r_wAppend, r_wInsert, r_wExtend, r_wClear, r_wClearT, r_wPopT, r_wPopTo, r_wSetIx, r_wFor, r_wForOw, r_fLen, r_fAbs, r_fMin2, r_fMax2, r_fInt, r_fStr, r_fList, r_fTuple, r_fDict, r_fAll, r_fAny, r_mCount, r_mRfind, r_mFind, r_mStarts, r_mEnds, r_mSplit, r_mJoin, r_mIsupper, r_mIsalnum, r_mIsalpha, r_mIsdigit, r_mLower, r_wipe, r_wipe2, oAdd, oSub, oMul, oMod, oFdiv, oPow, oEq, oNe, oLt, oLe, oGt, oGe, oIn, oNin, oIx, inD, frz, setIx, dicIt, boIt, owIt, startD, cellVw, cellSh, cellOw, kInt, kStr, kBl, kLst, kDic, kTup, plain2, scal2, D.scal, D.flat, D.isNon, D.isBl, D.isTy, D.dat, D.key, celOf, List.replicate, List.getElem?_cons_zero, List.getElem?_cons_succ, List.set_cons_zero, List.set_cons_succ, Option.getD_some, forall_exists_index, and_imp, forall_eq, forall_eq_apply_imp_iff, forall_apply_eq_imp_iff, if_true, if_false, Bool.not_true, Bool.not_false, Bool.not_eq_true', Bool.true_and, Bool.and_true, Bool.false_and, Bool.and_false, Bool.false_eq_true, Bool.true_eq_false, ite_true, ite_false, reduceIte, true_and, and_true, false_or, or_false, true_or, or_true, atD0, atD1, atD2, Option.some.injEq, List.length_map, all_int, all_str, all_chr, all_bl, all_words, beq_iff_eq, Int.reduceLT, Int.reduceLE, Int.reduceEq, Int.reduceNeg, Int.reduceBEq, Int.reduceToNat, Int.reducePow, Nat.reduceAdd, Nat.reduceLT, Nat.reduceLeDiff, Bool.not_eq_eq_eq_not, decide_eq_true_eq, List.length_cons, List.length_nil, un, bin, tri, isTok, SZ, D.dic.injEq, D.dit.injEq, D.str.injEq, D.int.injEq, D.lst.injEq, D.bl.injEq, eqv_str, eqv_int, eqv_bl, eqv_is, eqv_si, eqv_sn, eqv_in, beq_self_eq_true, List.cons.injEq, exists_eq_left', forall_eq', exists_eq', exists_eq_left, exists_eq_right, Bool.and_self, Bool.or_self, Bool.or_true, Bool.or_false]
          refine forD_ind (fun ds Γ => (∀ d ∈ ds, d ∈ vs) ∧ ∃ ps c6 c7 c8, Γ = [Cel.bo D.tok, .bo (.lst ms), .sh (.lst us), c3, .sh (.lst vs), .ow a1 (.lst ps), c6, c7, c8] ∧ (∀ p ∈ ps, isPair p) ∧ 1 ≤ ps.length ∧ ps.length + ds.length ≤ 100) ?_ ?_ _ _ ?_
          · rintro Γ ⟨_, ps, c6, c7, c8, rfl, f1, f2, f3⟩
            rw [List.length_nil] at f3
            simp only [b__law_asked_pairs_t110, r_wVar, r_wView, r_wOwn, r_wC, r_wFlat, r_wNewD, r_wNewT, r_wOp, r_wNeg, r_wIsN, r_wNotN, r_wIsB, r_wTest, r_wAnd, r_wOr, r_wNot, r_wAndV, r_wOrV, r_wNotV, r_wIf, r_wChain, r_wNil, r_wCons, r_wTup, r_wLst, r_wCall, r_wFn, r_wIsI, r_woN, r_woS, r_wSlice, r_wMt, r_wMt0, r_wRange1, r_wRange2, r_wItems, r_wBoIt, r_wOwIt, r_wKeys, r_gNm, r_gsNil, r_gsCons, r_gTp, r_wYes, r_wComp, r_wDComp, r_wDCompT, r_wNext, r_wSeq, r_wBreak, r_wCont, r_wExpr, r_wRet, r_wRetN, r_wIfS, r_wAsg, r_wOwnAsg, r_wFrz, r_wAppend, r_wInsert, r_wExtend, r_wClear, r_wClearT, r_wPopT, r_wPopTo, r_wSetIx, r_wFor, r_wForOw, r_fLen, r_fAbs, r_fMin2, r_fMax2, r_fInt, r_fStr, r_fList, r_fTuple, r_fDict, r_fAll, r_fAny, r_mCount, r_mRfind, r_mFind, r_mStarts, r_mEnds, r_mSplit, r_mJoin, r_mIsupper, r_mIsalnum, r_mIsalpha, r_mIsdigit, r_mLower, r_wipe, r_wipe2, oAdd, oSub, oMul, oMod, oFdiv, oPow, oEq, oNe, oLt, oLe, oGt, oGe, oIn, oNin, oIx, inD, frz, setIx, dicIt, boIt, owIt, startD, cellVw, cellSh, cellOw, kInt, kStr, kBl, kLst, kDic, kTup, plain2, scal2, D.scal, D.flat, D.isNon, D.isBl, D.isTy, D.dat, D.key, celOf, List.replicate, List.getElem?_cons_zero, List.getElem?_cons_succ, List.set_cons_zero, List.set_cons_succ, Option.getD_some, forall_exists_index, and_imp, forall_eq, forall_eq_apply_imp_iff, forall_apply_eq_imp_iff, if_true, if_false, Bool.not_true, Bool.not_false, Bool.not_eq_true', Bool.true_and, Bool.and_true, Bool.false_and, Bool.and_false, Bool.false_eq_true, Bool.true_eq_false, ite_true, ite_false, reduceIte, true_and, and_true, false_or, or_false, true_or, or_true, atD0, atD1, atD2, Option.some.injEq, List.length_map, all_int, all_str, all_chr, all_bl, all_words, beq_iff_eq, Int.reduceLT, Int.reduceLE, Int.reduceEq, Int.reduceNeg, Int.reduceBEq, Int.reduceToNat, Int.reducePow, Nat.reduceAdd, Nat.reduceLT, Nat.reduceLeDiff, Bool.not_eq_eq_eq_not, decide_eq_true_eq, List.length_cons, List.length_nil, un, bin, tri, isTok, SZ, D.dic.injEq, D.dit.injEq, D.str.injEq, D.int.injEq, D.lst.injEq, D.bl.injEq, eqv_str, eqv_int, eqv_bl, eqv_is, eqv_si, eqv_sn, eqv_in, beq_self_eq_true, List.cons.injEq, exists_eq_left', forall_eq', exists_eq', exists_eq_left, exists_eq_right, Bool.and_self, Bool.or_self, Bool.or_true, Bool.or_false]
            exact post _ f2 (by omega) f1
          · rintro d ds Γ N ⟨hd, ps, c6, c7, c8, rfl, f1, f2, f3⟩ hN
            rw [List.length_cons] at f3
            obtain ⟨j, rfl⟩ := g3 d (hd d (List.mem_cons_self ..))
            simp only [b__law_asked_pairs_l108, p_S_pick, q_S_pick, S_pick_pre, S_pick_post, r_wVar, r_wView, r_wOwn, r_wC, r_wFlat, r_wNewD, r_wNewT, r_wOp, r_wNeg, r_wIsN, r_wNotN, r_wIsB, r_wTest, r_wAnd, r_wOr, r_wNot, r_wAndV, r_wOrV, r_wNotV, r_wIf, r_wChain, r_wNil, r_wCons, r_wTup, r_wLst, r_wCall, r_wFn, r_wIsI, r_woN, r_woS, r_wSlice, r_wMt, r_wMt0, r_wRange1, r_wRange2, r_wItems, r_wBoIt, r_wOwIt, r_wKeys, r_gNm, r_gsNil, r_gsCons, r_gTp, r_wYes, r_wComp, r_wDComp, r_wDCompT, r_wNext, r_wSeq, r_wBreak, r_wCont, r_wExpr, r_wRet, r_wRetN, r_wIfS, r_wAsg, r_wOwnAsg, r_wFrz, r_wAppend, r_wInsert, r_wExtend, r_wClear, r_wClearT, r_wPopT, r_wPopTo, r_wSetIx, r_wFor, r_wForOw, r_fLen, r_fAbs, r_fMin2, r_fMax2, r_fInt, r_fStr, r_fList, r_fTuple, r_fDict, r_fAll, r_fAny, r_mCount, r_mRfind, r_mFind, r_mStarts, r_mEnds, r_mSplit, r_mJoin, r_mIsupper, r_mIsalnum, r_mIsalpha, r_mIsdigit, r_mLower, r_wipe, r_wipe2, oAdd, oSub, oMul, oMod, oFdiv, oPow, oEq, oNe, oLt, oLe, oGt, oGe, oIn, oNin, oIx, inD, frz, setIx, dicIt, boIt, owIt, startD, cellVw, cellSh, cellOw, kInt, kStr, kBl, kLst, kDic, kTup, plain2, scal2, D.scal, D.flat, D.isNon, D.isBl, D.isTy, D.dat, D.key, celOf, List.replicate, List.getElem?_cons_zero, List.getElem?_cons_succ, List.set_cons_zero, List.set_cons_succ, Option.getD_some, forall_exists_index, and_imp, forall_eq, forall_eq_apply_imp_iff, forall_apply_eq_imp_iff, if_true, if_false, Bool.not_true, Bool.not_false, Bool.not_eq_true', Bool.true_and, Bool.and_true, Bool.false_and, Bool.and_false, Bool.false_eq_true, Bool.true_eq_false, ite_true, ite_false, reduceIte, true_and, and_true, false_or, or_false, true_or, or_true, atD0, atD1, atD2, Option.some.injEq, List.length_map, all_int, all_str, all_chr, all_bl, all_words, beq_iff_eq, Int.reduceLT, Int.reduceLE, Int.reduceEq, Int.reduceNeg, Int.reduceBEq, Int.reduceToNat, Int.reducePow, Nat.reduceAdd, Nat.reduceLT, Nat.reduceLeDiff, Bool.not_eq_eq_eq_not, decide_eq_true_eq, List.length_cons, List.length_nil, un, bin, tri, isTok, SZ, D.dic.injEq, D.dit.injEq, D.str.injEq, D.int.injEq, D.lst.injEq, D.bl.injEq, eqv_str, eqv_int, eqv_bl, eqv_is, eqv_si, eqv_sn, eqv_in, beq_self_eq_true, List.cons.injEq, exists_eq_left', forall_eq', exists_eq', exists_eq_left, exists_eq_right, Bool.and_self, Bool.or_self, Bool.or_true, Bool.or_false]
            refine ⟨⟨une, by omega⟩, fun u hu => ?_⟩
            obtain ⟨i, rfl⟩ := h1 u hu
            exact ⟨by omega, hN _ ⟨fun d h => hd d (List.mem_cons_of_mem _ h), _, _, _, _, rfl, allP_app f1, by rw [List.length_append]; omega, by rw [List.length_append]; show ps.length + 1 + _ ≤ 100; omega⟩⟩
          · exact ⟨fun d h => h, _, _, _, _, rfl, f1, f2, by omega⟩
        · rintro d ds Γ N ⟨hd, ps, c6, c7, c8, rfl, f1, f2, f3⟩ hN
          rw [List.length_cons] at f3
          obtain ⟨j, rfl⟩ := h1 d (hd d (List.mem_cons_self ..))
          simp only [b__law_asked_pairs_l106, p_S_pick, q_S_pick, S_pick_pre, S_pick_post, r_wVar, r_wView, r_wOwn, r_wC, r_wFlat, r_wNewD, r_wNewT, r_wOp, r_wNeg, r_wIsN, r_wNotN, r_wIsB, r_wTest, r_wAnd, r_wOr, r_wNot, r_wAndV, r_wOrV, r_wNotV, r_wIf, r_wChain, r_wNil, r_wCons, r_wTup, r_wLst, r_wCall, r_wFn, r_wIsI, r_woN, r_woS, r_wSlice, r_wMt, r_wMt0, r_wRange1, r_wRange2, r_wItems, r_wBoIt, r_wOwIt, r_wKeys, r_gNm, r_gsNil, r_gsCons, r_gTp, r_wYes, r_wComp, r_wDComp, r_wDCompT, r_wNext, r_wSeq, r_wBreak, r_wCont, r_wExpr, r_wRet, r_wRetN, r_wIfS, r_wAsg, r_wOwnAsg, r_wFrz, r_wAppend, r_wInsert, r_wExtend, r_wClear, r_wClearT, r_wPopT, r_wPopTo, r_wSetIx, r_wFor, r_wForOw, r_fLen, r_fAbs, r_fMin2, r_fMax2, r_fInt, r_fStr, r_fList, r_fTuple, r_fDict, r_fAll, r_fAny, r_mCount, r_mRfind, r_mFind, r_mStarts, r_mEnds, r_mSplit, r_mJoin, r_mIsupper, r_mIsalnum, r_mIsalpha, r_mIsdigit, r_mLower, r_wipe, r_wipe2, oAdd, oSub, oMul, oMod, oFdiv, oPow, oEq, oNe, oLt, oLe, oGt, oGe, oIn, oNin, oIx, inD, frz, setIx, dicIt, boIt, owIt, startD, cellVw, cellSh, cellOw, kInt, kStr, kBl, kLst, kDic, kTup, plain2, scal2, D.scal, D.flat, D.isNon, D.isBl, D.isTy, D.dat, D.key, celOf, List.replicate, List.getElem?_cons_zero, List.getElem?_cons_succ, List.set_cons_zero, List.set_cons_succ, Option.getD_some, forall_exists_index, and_imp, forall_eq, forall_eq_apply_imp_iff, forall_apply_eq_imp_iff, if_true, if_false, Bool.not_true, Bool.not_false, Bool.not_eq_true', Bool.true_and, Bool.and_true, Bool.false_and, Bool.and_false, Bool.false_eq_true, Bool.true_eq_false, ite_true, ite_false, reduceIte, true_and, and_true, false_or, or_false, true_or, or_true, atD0, atD1, atD2, Option.some.injEq, List.length_map, all_int, all_str, all_chr, all_bl, all_words, beq_iff_eq, Int.reduceLT, Int.reduceLE, Int.reduceEq, Int.reduceNeg, Int.reduceBEq, Int.reduceToNat, Int.reducePow, Nat.reduceAdd, Nat.reduceLT, Nat.reduceLeDiff, Bool.not_eq_eq_eq_not, decide_eq_true_eq, List.length_cons, List.length_nil, un, bin, tri, isTok, SZ, D.dic.injEq, D.dit.injEq, D.str.injEq, D.int.injEq, D.lst.injEq, D.bl.injEq, eqv_str, eqv_int, eqv_bl, eqv_is, eqv_si, eqv_sn, eqv_in, beq_self_eq_true, List.cons.injEq, exists_eq_left', forall_eq', exists_eq', exists_eq_left, exists_eq_right, Bool.and_self, Bool.or_self, Bool.or_true, Bool.or_false]
          refine ⟨⟨vne, by omega⟩, fun u hu => ?_⟩
          obtain ⟨i, rfl⟩ := g3 u hu
          exact ⟨by omega, hN _ ⟨fun d h => hd d (List.mem_cons_of_mem _ h), _, _, _, _, rfl, allP_app f1, by rw [List.length_append]; omega, by rw [List.length_append]; show ps.length + 1 + _ ≤ 50; omega⟩⟩
        · exact ⟨fun d h => h, _, _, _, _, rfl, fun p hp => ⟨99, ms.length, by simpa using hp⟩, Nat.le_refl _, by show 1 + _ ≤ 50; omega⟩
    · rintro d ds acc N ⟨g0, g1, g2⟩ hN
      rw [List.length_cons] at g2
      simp only [r_wVar, r_wView, r_wOwn, r_wC, r_wFlat, r_wNewD, r_wNewT, r_wOp, r_wNeg, r_wIsN, r_wNotN, r_wIsB, r_wTest, r_wAnd, r_wOr, r_wNot, r_wAndV, r_wOrV, r_wNotV, r_wIf, r_wChain, r_wNil, r_wCons, r_wTup, r_wLst, r_wCall, r_wFn, r_wIsI, r_woN, r_woS, r_wSlice, r_wMt, r_wMt0, r_wRange1, r_wRange2, r_wItems, r_wBoIt, r_wOwIt, r_wKeys, r_gNm, r_gsNil, r_gsCons, r_gTp, r_wYes, r_wComp, r_wDComp, r_wDCompT, r_wNext, r_wSeq, r_wBreak, r_wCont, r_wExpr, r_wRet, r_wRetN, r_wIfS, r_wAsg, r_wOwnAsg, r_wFrz, r_wAppend, r_wInsert, r_wExtend, r_wClear, r_wClearT, r_wPopT, r_wPopTo, r_wSetIx, r_wFor, r_wForOw, r_fLen, r_fAbs, r_fMin2, r_fMax2, r_fInt, r_fStr, r_fList, r_fTuple, r_fDict, r_fAll, r_fAny, r_mCount, r_mRfind, r_mFind, r_mStarts, r_mEnds, r_mSplit, r_mJoin, r_mIsupper, r_mIsalnum, r_mIsalpha, r_mIsdigit, r_mLower, r_wipe, r_wipe2, oAdd, oSub, oMul, oMod, oFdiv, oPow, oEq, oNe, oLt, oLe, oGt, oGe, oIn, oNin, oIx, inD, frz, setIx, dicIt, boIt, owIt, startD, cellVw, cellSh, cellOw, kInt, kStr, kBl, kLst, kDic, kTup, plain2, scal2, D.scal, D.flat, D.isNon, D.isBl, D.isTy, D.dat, D.key, celOf, List.replicate, List.getElem?_cons_zero, List.getElem?_cons_succ, List.set_cons_zero, List.set_cons_succ, Option.getD_some, forall_exists_index, and_imp, forall_eq, forall_eq_apply_imp_iff, forall_apply_eq_imp_iff, if_true, if_false, Bool.not_true, Bool.not_false, Bool.not_eq_true', Bool.true_and, Bool.and_true, Bool.false_and, Bool.and_false, Bool.false_eq_true, Bool.true_eq_false, ite_true, ite_false, reduceIte, true_and, and_true, false_or, or_false, true_or, or_true, atD0, atD1, atD2, Option.some.injEq, List.length_map, all_int, all_str, all_chr, all_bl, all_words, beq_iff_eq, Int.reduceLT, Int.reduceLE, Int.reduceEq, Int.reduceNeg, Int.reduceBEq, Int.reduceToNat, Int.reducePow, Nat.reduceAdd, Nat.reduceLT, Nat.reduceLeDiff, Bool.not_eq_eq_eq_not, decide_eq_true_eq, List.length_cons, List.length_nil, un, bin, tri, isTok, SZ, D.dic.injEq, D.dit.injEq, D.str.injEq, D.int.injEq, D.lst.injEq, D.bl.injEq, eqv_str, eqv_int, eqv_bl, eqv_is, eqv_si, eqv_sn, eqv_in, beq_self_eq_true, List.cons.injEq, exists_eq_left', forall_eq', exists_eq', exists_eq_left, exists_eq_right, Bool.and_self, Bool.or_self, Bool.or_true, Bool.or_false]
      obtain ⟨i, rfl⟩ := g0 d (List.mem_cons_self ..)
      exact ⟨by omega, hN _ ⟨fun u hu => g0 u (List.mem_cons_of_mem _ hu), allI_app g1 (allI_cons allI_nil), by rw [List.length_append]; show acc.length + 1 + _ ≤ 20; omega⟩⟩
    · refine ⟨fun d hd => ?_, allI_nil, ?_⟩
      · obtain ⟨k, _, rfl⟩ := List.mem_map.mp hd
        exact ⟨_, rfl⟩
      · rw [List.length_map, List.length_range]
        show 0 + _ ≤ 20
        split <;> omega
  · rintro d ds Γ N ⟨hd, us, c3, c4, c5, c6, c7, c8, rfl, h1, h2, h3⟩ hN
    rw [List.length_cons] at h3
    obtain ⟨k, act, a, w, rfl, la, lact⟩ := hx.2.1 d (hd d (List.mem_cons_self ..))
    simp only [b__law_asked_pairs_l100, letD, lA0, r_wVar, r_wView, r_wOwn, r_wC, r_wFlat, r_wNewD, r_wNewT, r_wOp, r_wNeg, r_wIsN, r_wNotN, r_wIsB, r_wTest, r_wAnd, r_wOr, r_wNot, r_wAndV, r_wOrV, r_wNotV, r_wIf, r_wChain, r_wNil, r_wCons, r_wTup, r_wLst, r_wCall, r_wFn, r_wIsI, r_woN, r_woS, r_wSlice, r_wMt, r_wMt0, r_wRange1, r_wRange2, r_wItems, r_wBoIt, r_wOwIt, r_wKeys, r_gNm, r_gsNil, r_gsCons, r_gTp, r_wYes, r_wComp, r_wDComp, r_wDCompT, r_wNext, r_wSeq, r_wBreak, r_wCont, r_wExpr, r_wRet, r_wRetN, r_wIfS, r_wAsg, r_wOwnAsg, r_wFrz, r_wAppend, r_wInsert, r_wExtend, r_wClear, r_wClearT, r_wPopT, r_wPopTo, r_wSetIx, r_wFor, r_wForOw, r_fLen, r_fAbs, r_fMin2, r_fMax2, r_fInt, r_fStr, r_fList, r_fTuple, r_fDict, r_fAll, r_fAny, r_mCount, r_mRfind, r_mFind, r_mStarts, r_mEnds, r_mSplit, r_mJoin, r_mIsupper, r_mIsalnum, r_mIsalpha, r_mIsdigit, r_mLower, r_wipe, r_wipe2, oAdd, oSub, oMul, oMod, oFdiv, oPow, oEq, oNe, oLt, oLe, oGt, oGe, oIn, oNin, oIx, inD, frz, setIx, dicIt, boIt, owIt, startD, cellVw, cellSh, cellOw, kInt, kStr, kBl, kLst, kDic, kTup, plain2, scal2, D.scal, D.flat, D.isNon, D.isBl, D.isTy, D.dat, D.key, celOf, List.replicate, List.getElem?_cons_zero, List.getElem?_cons_succ, List.set_cons_zero, List.set_cons_succ, Option.getD_some, forall_exists_index, and_imp, forall_eq, forall_eq_apply_imp_iff, forall_apply_eq_imp_iff, if_true, if_false, Bool.not_true, Bool.not_false, Bool.not_eq_true', Bool.true_and, Bool.and_true, Bool.false_and, Bool.and_false, Bool.false_eq_true, Bool.true_eq_false, ite_true, ite_false, reduceIte, true_and, and_true, false_or, or_false, true_or, or_true, atD0, atD1, atD2, Option.some.injEq, List.length_map, all_int, all_str, all_chr, all_bl, all_words, beq_iff_eq, Int.reduceLT, Int.reduceLE, Int.reduceEq, Int.reduceNeg, Int.reduceBEq, Int.reduceToNat, Int.reducePow, Nat.reduceAdd, Nat.reduceLT, Nat.reduceLeDiff, Bool.not_eq_eq_eq_not, decide_eq_true_eq, List.length_cons, List.length_nil, un, bin, tri, isTok, SZ, D.dic.injEq, D.dit.injEq, D.str.injEq, D.int.injEq, D.lst.injEq, D.bl.injEq, eqv_str, eqv_int, eqv_bl, eqv_is, eqv_si, eqv_sn, eqv_in, beq_self_eq_true, List.cons.injEq, exists_eq_left', forall_eq', exists_eq', exists_eq_left, exists_eq_right, Bool.and_self, Bool.or_self, Bool.or_true, Bool.or_false]
    exact ⟨by omega, hN _ ⟨fun d h => hd d (List.mem_cons_of_mem _ h), _, _, _, _, _, _, _, rfl, allI_app h1 (allI_cons (allI_cons (allI_cons allI_nil))), by rw [List.length_append]; omega, by rw [List.length_append]; show us.length + 3 + _ ≤ 40; omega⟩⟩
  · refine ⟨fun d hd => mem_cut hd, _, _, _, _, _, _, _, rfl, allI_cons (allI_cons (allI_cons (allI_cons allI_nil))), by decide, ?_⟩
    have : (cutD ms none (some 12)).length ≤ 12 := by
      rw [cut_take (by decide), List.length_take]
      exact Nat.min_le_left _ _
    show 4 + _ ≤ 40
    omega
end K83

namespace K83
open DL
theorem dcompT_ind {g : WG} {t : WT} {e f : WE} {Γ : Gam} {k : List (D × D) → Prop} (I : List D → List (D × D) → Prop) (h0 : ∀ acc, I [] acc → k acc)
    (hs : ∀ d ds acc (N : List (D × D) → Prop), I (d :: ds) acc → (∀ acc', I ds acc' → N acc') → g d Γ fun Γ' => t Γ' fun b => if b = true then e Γ' fun x => f Γ' fun y => (x.nkey = true ∧ acc.length < SZ) ∧ N (put acc x y) else N acc) :
    ∀ ds acc, I ds acc → dcompT g t e f Γ k ds acc
  | [], acc, h => h0 acc h
  | d :: ds, acc, h => hs d ds acc (fun a => dcompT g t e f Γ k ds a) h fun acc' h' => dcompT_ind I h0 hs ds acc' h'
theorem lt3_irr (p : K3) : lt3 p p = false := decide_eq_false (by omega)
theorem lt3_tri {p q : K3} (h : lt3 p q = false) (g : lt3 q p = false) : p = q := by
  have h := of_decide_eq_false h
  have g := of_decide_eq_false g
  obtain ⟨a, b, c⟩ := p
  obtain ⟨x, y, z⟩ := q
  have h : ¬ (a < x ∨ (a = x ∧ (b < y ∨ (b = y ∧ c < z)))) := h
  have g : ¬ (x < a ∨ (x = a ∧ (y < b ∨ (y = b ∧ z < c)))) := g
  have e1 : a = x := by omega
  have e2 : b = y := by omega
  have e3 : c = z := by omega
  rw [e1, e2, e3]
theorem lt3_tr {p q r : K3} (h : lt3 p q = true) (g : lt3 q r = true) : lt3 p r = true := by
  have h := of_decide_eq_true h
  have g := of_decide_eq_true g
  exact decide_eq_true (by omega)
theorem lexI_lt3 (a b c x y z : Int) : lexI [a, b, c] [x, y, z] = lt3 (a, b, c) (x, y, z) := by
  have e : lexI [a, b, c] [x, y, z] = if a = x then if b = y then if c = z then false else decide (c < z) else decide (b < y) else decide (a < x) := rfl
  rw [e]
  unfold lt3
  by_cases h1 : a = x
  · by_cases h2 : b = y
    · by_cases h3 : c = z
      · rw [if_pos h1, if_pos h2, if_pos h3]; exact (decide_eq_false (by show ¬ (a < x ∨ (a = x ∧ (b < y ∨ (b = y ∧ c < z)))); omega)).symm
      · rw [if_pos h1, if_pos h2, if_neg h3]; exact decide_eq_decide.2 (by show c < z ↔ (a < x ∨ (a = x ∧ (b < y ∨ (b = y ∧ c < z)))); omega)
    · rw [if_pos h1, if_neg h2]; exact decide_eq_decide.2 (by show b < y ↔ (a < x ∨ (a = x ∧ (b < y ∨ (b = y ∧ c < z)))); omega)
  · rw [if_neg h1]; exact decide_eq_decide.2 (by show a < x ↔ (a < x ∨ (a = x ∧ (b < y ∨ (b = y ∧ c < z)))); omega)
theorem ints3 (a b c : Int) : intsD [.int a, .int b, .int c] = some [a, b, c] := rfl
structure Dec (V : List D) (kvs : List (D × D)) : Prop where
  nd : (kvs.map (·.1)).Nodup
  ky : Keyed kvs
  mx : ∀ p ∈ kvs, p.2 ∈ V ∧ atomL p.2 = p.1 ∧ ∀ l' ∈ V, atomL l' = p.1 → lt3 (keyL p.2) (keyL l') = false
  all : ∀ l ∈ V, atomL l ∈ kvs.map (·.1)
theorem Dec.nil : Dec [] [] := ⟨List.nodup_nil, fun p h => (List.not_mem_nil h).elim, fun p h => (List.not_mem_nil h).elim, fun p h => (List.not_mem_nil h).elim⟩
theorem mem_put_keys {kvs : List (D × D)} {q v x : D} (hk : Keyed kvs) (hq : q.ky = true) : x ∈ (put kvs q v).map (·.1) ↔ x ∈ kvs.map (·.1) ∨ x = q := by
  cases h : look kvs q with
  | none => rw [put_new h, List.map_append, List.mem_append]; simp
  | some w =>
    rw [put_keys_old h]
    constructor
    · exact .inl
    · rintro (h' | rfl)
      · exact h'
      · exact List.mem_map.mpr ⟨_, look_some hk hq h, rfl⟩
theorem Dec.put {V : List D} {kvs : List (D × D)} {l : D} (h : Dec V kvs) (hq : (atomL l).ky = true) (hv : ∀ m, look kvs (atomL l) = some m → lt3 (keyL m) (keyL l) = true) : Dec (V ++ [l]) (DL.put kvs (atomL l) l) := by
  refine ⟨put_nodup h.ky hq h.nd, fun p hp => ?_, fun p hp => ?_, fun x hx => ?_⟩
  · rcases put_mem h.ky hq hp with rfl | hp
    · exact hq
    · exact h.ky p hp
  · -- which entries stand in the new dict
    have cases : (p = (atomL l, l)) ∨ (p ∈ kvs ∧ p.1 ≠ atomL l) := by
      have nn : p.1 ≠ atomL l ∨ p.1 = atomL l := (Classical.em _).symm
      rcases put_mem h.ky hq hp with e | hp'
      · exact .inl e
      · rcases nn with n | e
        · exact .inr ⟨hp', n⟩
        · left
          have nd := put_nodup (v := l) h.ky hq h.nd
          have ky : Keyed (DL.put kvs (atomL l) l) := fun p hp => by
            rcases put_mem h.ky hq hp with rfl | hp
            · exact hq
            · exact h.ky p hp
          have a1 := look_mem ky nd (q := p.1) (v := p.2) hp
          rw [e, look_put h.ky hq hq, if_pos ((eqv_key hq hq).2 rfl)] at a1
          cases a1
          exact Prod.ext e rfl
    rcases cases with rfl | ⟨hp', n⟩
    · refine ⟨List.mem_append_right _ (List.mem_cons_self ..), rfl, fun l' hl' ea => ?_⟩
      rcases List.mem_append.mp hl' with hl' | hl'
      · have ea : atomL l' = atomL l := ea
        have := h.all l' hl'
        rw [ea] at this
        obtain ⟨⟨q, m⟩, hm, e⟩ := List.mem_map.mp this
        have e : q = atomL l := e
        subst e
        have g := hv m (look_mem h.ky h.nd hm)
        have g2 := (h.mx _ hm).2.2 l' hl' ea
        cases c : lt3 (keyL l) (keyL l') with
        | false => rfl
        | true => exact absurd (lt3_tr g c) (by rw [g2]; decide)
      · have : l' = l := by simpa using hl'
        rw [this]; exact lt3_irr _
    · obtain ⟨a1, a2, a3⟩ := h.mx p hp'
      refine ⟨List.mem_append_left _ a1, a2, fun l' hl' ea => ?_⟩
      rcases List.mem_append.mp hl' with hl' | hl'
      · exact a3 l' hl' ea
      · have e : l' = l := by simpa using hl'
        exact absurd (e ▸ ea).symm n
  · rw [mem_put_keys h.ky hq]
    rcases List.mem_append.mp hx with hx | hx
    · exact .inl (h.all x hx)
    · have e : x = l := by simpa using hx
      exact .inr (e ▸ rfl)
theorem Dec.keep {V : List D} {kvs : List (D × D)} {l m : D} (h : Dec V kvs) (hq : (atomL l).ky = true) (hm : look kvs (atomL l) = some m) (hv : lt3 (keyL m) (keyL l) = false) : Dec (V ++ [l]) kvs := by
  have hin := look_some h.ky hq hm
  refine ⟨h.nd, h.ky, fun p hp => ?_, fun x hx => ?_⟩
  · obtain ⟨a1, a2, a3⟩ := h.mx p hp
    refine ⟨List.mem_append_left _ a1, a2, fun l' hl' ea => ?_⟩
    rcases List.mem_append.mp hl' with hl' | hl'
    · exact a3 l' hl' ea
    · have e : l' = l := by simpa using hl'
      subst e
      have := look_mem h.ky h.nd (q := p.1) (v := p.2) hp
      rw [← ea, hm] at this
      cases this
      exact hv
  · rcases List.mem_append.mp hx with hx | hx
    · exact h.all x hx
    · have e : x = l := by simpa using hx
      subst e
      exact List.mem_map.mpr ⟨_, hin, rfl⟩
def telling (kvs : List (D × D)) : List (D × D) := (kvs.filter fun p => tellL p.2).map fun p => (p.1, weightL p.2)
theorem telling_keys (kvs : List (D × D)) : (telling kvs).map (·.1) = (kvs.filter fun p => tellL p.2).map (·.1) := by
  unfold telling
  rw [List.map_map]
  rfl
theorem Dec.facts {V : List D} {kvs : List (D × D)} (h : Dec V kvs) (hl : kvs.length ≤ 1000) (hu : ∀ y ∈ V, ∀ z ∈ V, keyL y = keyL z → y = z) : Facts V (.dit (telling kvs)) := by
  refine ⟨_, rfl, ?_, ?_, fun a w => ⟨fun hm => ?_, ?_⟩⟩
  · rw [telling_keys]
    exact h.nd.sublist (List.filter_sublist.map _)
  · unfold telling
    rw [List.length_map]
    exact Nat.le_trans (List.length_filter_le ..) hl
  · obtain ⟨p, hp, e⟩ := List.mem_map.mp hm
    rw [List.mem_filter] at hp
    cases e
    obtain ⟨a1, a2, a3⟩ := h.mx p hp.1
    exact ⟨p.2, a1, a2, hp.2, rfl, a3⟩
  · rintro ⟨l, l1, l2, l3, l4, l5⟩
    obtain ⟨p, hp, e⟩ := List.mem_map.mp (h.all l l1)
    obtain ⟨a1, a2, a3⟩ := h.mx p hp
    have e : p.1 = atomL l := e
    have : p.2 = l := hu _ a1 _ l1 (lt3_tri (a3 l l1 e.symm) (l5 _ a1 (by rw [a2, e, l2])))
    refine List.mem_map.mpr ⟨p, List.mem_filter.mpr ⟨hp, ?_⟩, ?_⟩
    · show tellL p.2 = true
      rw [this]; exact l3
    · rw [this, e, l2, l4]
theorem atom_ok {l : D} (h : isL l) : (atomL l).nkey = true := by
  obtain ⟨k, act, a, w, rfl, ⟨h1, _, _⟩, h4⟩ := h
  exact h1
end K83

namespace K83
open DL
theorem seen_in {ms : List D} {i j : Int} : ∀ l ∈ seen ms i j, l ∈ ms := fun l hl => mem_cut (List.mem_filter.mp hl).1
theorem cut_le {ms : List D} {j : Int} : (cutD ms none (some j)).length ≤ ms.length := len_cut
theorem vc_facts_at : ∀ ds : List D, ds.length = 3 → S_facts_at.pre ds → b_facts_at { nx := fun _ => S_facts_at.post ds .non, rt := S_facts_at.post ds } (startD [false, false, false] ds 3) := by
  intro ds hl h
  match ds, h with
  | [x, y, z], h =>
  change kLst x (fun ms => kInt y fun i => kInt z fun j => okMail ms) at h
  obtain ⟨ms, rfl⟩ := kLst_is h
  change kInt y (fun i => kInt z fun j => okMail ms) at h
  obtain ⟨i, rfl⟩ := kInt_is h
  change kInt z (fun j => okMail ms) at h
  obtain ⟨j, rfl⟩ := kInt_is h
  have hx : okMail ms := h
  have hz := hx.1
  have post : ∀ d, Facts (seen ms i j) d → S_facts_at.post [.lst ms, .int i, .int j] d := fun d h => h
  generalize S_facts_at.post [.lst ms, .int i, .int j] = Q at post
  have hin : ∀ l ∈ cutD ms none (some j), isL l := fun l hl => hx.2.1 l (mem_cut hl)
  have cl : (cutD ms none (some j)).length ≤ 1000 := Nat.le_trans cut_le hz
  simp only [b_facts_at, r_wVar, r_wView, r_wOwn, r_wC, r_wFlat, r_wNewD, r_wNewT, r_wOp, r_wNeg, r_wIsN, r_wNotN, r_wIsB, r_wTest, r_wAnd, r_wOr, r_wNot, r_wAndV, r_wOrV, r_wNotV, r_wIf, r_wChain, r_wNil, r_wCons, r_wTup, r_wLst, r_wCall, r_wFn, r_wIsI, r_woN, r_woS, r_wSlice, r_wMt, r_wMt0, r_wRange1, r_wRange2, r_wItems, r_wBoIt, r_wOwIt, r_wKeys, r_gNm, r_gsNil, r_gsCons, r_gTp, r_wYes, r_wComp, r_wDComp, r_wDCompT, r_wNext, r_wSeq, r_wBreak, r_wCont, r_wExpr, r_wRet, r_wRetN, r_wIfS, r_wAsg, r_wOwnAsg, r_wFrz, r_wAppend, r_wInsert, r_wExtend, r_wClear, r_wClearT, r_wPopT, r_wPopTo, r_wSetIx, r_wFor, r_wForOw, r_fLen, r_fAbs, r_fMin2, r_fMax2, r_fInt, r_fStr, r_fList, r_fTuple, r_fDict, r_fAll, r_fAny, r_mCount, r_mRfind, r_mFind, r_mStarts, r_mEnds, r_mSplit, r_mJoin, r_mIsupper, r_mIsalnum, r_mIsalpha, r_mIsdigit, r_mLower, r_wipe, r_wipe2, oAdd, oSub, oMul, oMod, oFdiv, oPow, oEq, oNe, oLt, oLe, oGt, oGe, oIn, oNin, oIx, inD, frz, setIx, dicIt, boIt, owIt, startD, cellVw, cellSh, cellOw, kInt, kStr, kBl, kLst, kDic, kTup, plain2, scal2, D.scal, D.flat, D.isNon, D.isBl, D.isTy, D.dat, D.key, celOf, List.replicate, List.getElem?_cons_zero, List.getElem?_cons_succ, List.set_cons_zero, List.set_cons_succ, Option.getD_some, forall_exists_index, and_imp, forall_eq, forall_eq_apply_imp_iff, forall_apply_eq_imp_iff, if_true, if_false, Bool.not_true, Bool.not_false, Bool.not_eq_true', Bool.true_and, Bool.and_true, Bool.false_and, Bool.and_false, Bool.false_eq_true, Bool.true_eq_false, ite_true, ite_false, reduceIte, true_and, and_true, false_or, or_false, true_or, or_true, atD0, atD1, atD2, Option.some.injEq, List.length_map, all_int, all_str, all_chr, all_bl, all_words, beq_iff_eq, Int.reduceLT, Int.reduceLE, Int.reduceEq, Int.reduceNeg, Int.reduceBEq, Int.reduceToNat, Int.reducePow, Nat.reduceAdd, Nat.reduceLT, Nat.reduceLeDiff, Bool.not_eq_eq_eq_not, decide_eq_true_eq, List.length_cons, List.length_nil, un, bin, tri, isTok, SZ, D.dic.injEq, D.dit.injEq, D.str.injEq, D.int.injEq, D.lst.injEq, D.bl.injEq, eqv_str, eqv_int, eqv_bl, eqv_is, eqv_si, eqv_sn, eqv_in, beq_self_eq_true, List.cons.injEq, exists_eq_left', forall_eq', exists_eq', exists_eq_left, exists_eq_right, Bool.and_self, Bool.or_self, Bool.or_true, Bool.or_false]
  intro a1
  have pf : ∀ d, Facts ((cutD ms none (some j)).filter fun l => decide ((keyL l).1 ≤ i)) d → Q d := post
  have pu : ∀ y ∈ (cutD ms none (some j)).filter fun l => decide ((keyL l).1 ≤ i), ∀ z ∈ (cutD ms none (some j)).filter fun l => decide ((keyL l).1 ≤ i), keyL y = keyL z → y = z :=
    fun y hy z hz => hx.2.2 y (mem_cut (List.mem_filter.mp hy).1) z (mem_cut (List.mem_filter.mp hz).1)
  clear post
  generalize cutD ms none (some j) = cs at hin cl pf pu ⊢
  refine forD_ind (fun ds Γ => ∃ done kvs c4 c5, cs = done ++ ds ∧ Γ = [Cel.bo (.lst ms), .bo (.int i), .bo (.int j), .ow a1 (.dit kvs), c4, c5] ∧ Dec (done.filter fun l => decide ((keyL l).1 ≤ i)) kvs ∧ kvs.length ≤ done.length) ?_ ?_ _ _ ⟨[], [], _, _, rfl, rfl, Dec.nil, Nat.le_refl _⟩
  · rintro Γ ⟨done, kvs, c4, c5, e, rfl, hd, hk⟩
    rw [List.append_nil] at e
    subst e
    have fin := pf _ (hd.facts (by omega) pu)
    simp only [r_wVar, r_wView, r_wOwn, r_wC, r_wFlat, r_wNewD, r_wNewT, r_wOp, r_wNeg, r_wIsN, r_wNotN, r_wIsB, r_wTest, r_wAnd, r_wOr, r_wNot, r_wAndV, r_wOrV, r_wNotV, r_wIf, r_wChain, r_wNil, r_wCons, r_wTup, r_wLst, r_wCall, r_wFn, r_wIsI, r_woN, r_woS, r_wSlice, r_wMt, r_wMt0, r_wRange1, r_wRange2, r_wItems, r_wBoIt, r_wOwIt, r_wKeys, r_gNm, r_gsNil, r_gsCons, r_gTp, r_wYes, r_wComp, r_wDComp, r_wDCompT, r_wNext, r_wSeq, r_wBreak, r_wCont, r_wExpr, r_wRet, r_wRetN, r_wIfS, r_wAsg, r_wOwnAsg, r_wFrz, r_wAppend, r_wInsert, r_wExtend, r_wClear, r_wClearT, r_wPopT, r_wPopTo, r_wSetIx, r_wFor, r_wForOw, r_fLen, r_fAbs, r_fMin2, r_fMax2, r_fInt, r_fStr, r_fList, r_fTuple, r_fDict, r_fAll, r_fAny, r_mCount, r_mRfind, r_mFind, r_mStarts, r_mEnds, r_mSplit, r_mJoin, r_mIsupper, r_mIsalnum, r_mIsalpha, r_mIsdigit, r_mLower, r_wipe, r_wipe2, oAdd, oSub, oMul, oMod, oFdiv, oPow, oEq, oNe, oLt, oLe, oGt, oGe, oIn, oNin, oIx, inD, frz, setIx, dicIt, boIt, owIt, startD, cellVw, cellSh, cellOw, kInt, kStr, kBl, kLst, kDic, kTup, plain2, scal2, D.scal, D.flat, D.isNon, D.isBl, D.isTy, D.dat, D.key, celOf, List.replicate, List.getElem?_cons_zero, List.getElem?_cons_succ, List.set_cons_zero, List.set_cons_succ, Option.getD_some, forall_exists_index, and_imp, forall_eq, forall_eq_apply_imp_iff, forall_apply_eq_imp_iff, if_true, if_false, Bool.not_true, Bool.not_false, Bool.not_eq_true', Bool.true_and, Bool.and_true, Bool.false_and, Bool.and_false, Bool.false_eq_true, Bool.true_eq_false, ite_true, ite_false, reduceIte, true_and, and_true, false_or, or_false, true_or, or_true, atD0, atD1, atD2, Option.some.injEq, List.length_map, all_int, all_str, all_chr, all_bl, all_words, beq_iff_eq, Int.reduceLT, Int.reduceLE, Int.reduceEq, Int.reduceNeg, Int.reduceBEq, Int.reduceToNat, Int.reducePow, Nat.reduceAdd, Nat.reduceLT, Nat.reduceLeDiff, Bool.not_eq_eq_eq_not, decide_eq_true_eq, List.length_cons, List.length_nil, un, bin, tri, isTok, SZ, D.dic.injEq, D.dit.injEq, D.str.injEq, D.int.injEq, D.lst.injEq, D.bl.injEq, eqv_str, eqv_int, eqv_bl, eqv_is, eqv_si, eqv_sn, eqv_in, beq_self_eq_true, List.cons.injEq, exists_eq_left', forall_eq', exists_eq', exists_eq_left, exists_eq_right, Bool.and_self, Bool.or_self, Bool.or_true, Bool.or_false]
    refine dcompT_ind (fun ds acc => ∃ dn rs, kvs = dn ++ rs ∧ ds = rs.map (·.1) ∧ acc = telling dn) ?_ ?_ _ _ ⟨[], _, rfl, rfl, rfl⟩
    · rintro acc ⟨dn, rs, e, e2, rfl⟩
      have : rs = [] := List.map_eq_nil_iff.mp e2.symm
      subst this
      rw [List.append_nil] at e
      subst e
      exact fin
    · rintro d ds acc N ⟨dn, rs, e, e2, rfl⟩ hN
      cases rs with
      | nil => cases e2
      | cons p rs =>
        obtain ⟨q, m⟩ := p
        cases e2
        have hp : (q, m) ∈ kvs := by rw [e]; simp
        have hlk := look_mem hd.ky hd.nd hp
        obtain ⟨m1, m2, m3⟩ := hd.mx _ hp
        have im : isL m := hin m (List.mem_filter.mp m1).1
        have qn : q.nkey = true := by have := atom_ok im; rw [show atomL m = q from m2] at this; exact this
        obtain ⟨k, act, a, w, rfl, la, lact⟩ := im
        have ht : telling (dn ++ [(q, letD k act a w)]) = if act = TELL then telling dn ++ [(q, .int w)] else telling dn := by
          unfold telling
          rw [List.filter_append, List.map_append]
          have : ([(q, letD k act a w)].filter fun p => tellL p.2) = if act = TELL then [(q, letD k act a w)] else [] := by
            rw [List.filter_cons, show tellL ((q, letD k act a w) : D × D).2 = (act == TELL) from rfl]
            by_cases c : act = TELL
            · rw [if_pos (by rw [c]; rfl), if_pos c]; rfl
            · rw [if_neg (by simpa using c), if_neg c]; rfl
          rw [this]
          by_cases c : act = TELL
          · rw [if_pos c, if_pos c]; rfl
          · rw [if_neg c, if_neg c]; simp
        have hn : look (telling dn) q = none := by
          have kd : Keyed (telling dn) := fun p hp => by
            obtain ⟨p', hp', rfl⟩ := List.mem_map.mp hp
            exact hd.ky p' (by rw [e]; exact List.mem_append_left _ (List.mem_filter.mp hp').1)
          rw [look_none kd (nkey_ky qn), telling_keys]
          intro hm
          have nd := hd.nd
          rw [e, List.map_append, List.nodup_append] at nd
          obtain ⟨p', hp', e3⟩ := List.mem_map.mp hm
          exact nd.2.2 q (List.mem_map.mpr ⟨p', (List.mem_filter.mp hp').1, e3⟩) q (by simp) rfl
        have hlen : (telling dn).length < 16777216 := by
          have := congrArg List.length e
          rw [List.length_append] at this
          unfold telling
          rw [List.length_map]
          have := List.length_filter_le (fun p : D × D => tellL p.2) dn
          omega
        have hp := put_new (v := .int w) hn
        unfold letD at hlk
        simp only [hlk, lA3, lA5, qn, r_wVar, r_wView, r_wOwn, r_wC, r_wFlat, r_wNewD, r_wNewT, r_wOp, r_wNeg, r_wIsN, r_wNotN, r_wIsB, r_wTest, r_wAnd, r_wOr, r_wNot, r_wAndV, r_wOrV, r_wNotV, r_wIf, r_wChain, r_wNil, r_wCons, r_wTup, r_wLst, r_wCall, r_wFn, r_wIsI, r_woN, r_woS, r_wSlice, r_wMt, r_wMt0, r_wRange1, r_wRange2, r_wItems, r_wBoIt, r_wOwIt, r_wKeys, r_gNm, r_gsNil, r_gsCons, r_gTp, r_wYes, r_wComp, r_wDComp, r_wDCompT, r_wNext, r_wSeq, r_wBreak, r_wCont, r_wExpr, r_wRet, r_wRetN, r_wIfS, r_wAsg, r_wOwnAsg, r_wFrz, r_wAppend, r_wInsert, r_wExtend, r_wClear, r_wClearT, r_wPopT, r_wPopTo, r_wSetIx, r_wFor, r_wForOw, r_fLen, r_fAbs, r_fMin2, r_fMax2, r_fInt, r_fStr, r_fList, r_fTuple, r_fDict, r_fAll, r_fAny, r_mCount, r_mRfind, r_mFind, r_mStarts, r_mEnds, r_mSplit, r_mJoin, r_mIsupper, r_mIsalnum, r_mIsalpha, r_mIsdigit, r_mLower, r_wipe, r_wipe2, oAdd, oSub, oMul, oMod, oFdiv, oPow, oEq, oNe, oLt, oLe, oGt, oGe, oIn, oNin, oIx, inD, frz, setIx, dicIt, boIt, owIt, startD, cellVw, cellSh, cellOw, kInt, kStr, kBl, kLst, kDic, kTup, plain2, scal2, D.scal, D.flat, D.isNon, D.isBl, D.isTy, D.dat, D.key, celOf, List.replicate, List.getElem?_cons_zero, List.getElem?_cons_succ, List.set_cons_zero, List.set_cons_succ, Option.getD_some, forall_exists_index, and_imp, forall_eq, forall_eq_apply_imp_iff, forall_apply_eq_imp_iff, if_true, if_false, Bool.not_true, Bool.not_false, Bool.not_eq_true', Bool.true_and, Bool.and_true, Bool.false_and, Bool.and_false, Bool.false_eq_true, Bool.true_eq_false, ite_true, ite_false, reduceIte, true_and, and_true, false_or, or_false, true_or, or_true, atD0, atD1, atD2, Option.some.injEq, List.length_map, all_int, all_str, all_chr, all_bl, all_words, beq_iff_eq, Int.reduceLT, Int.reduceLE, Int.reduceEq, Int.reduceNeg, Int.reduceBEq, Int.reduceToNat, Int.reducePow, Nat.reduceAdd, Nat.reduceLT, Nat.reduceLeDiff, Bool.not_eq_eq_eq_not, decide_eq_true_eq, List.length_cons, List.length_nil, un, bin, tri, isTok, SZ, D.dic.injEq, D.dit.injEq, D.str.injEq, D.int.injEq, D.lst.injEq, D.bl.injEq, eqv_str, eqv_int, eqv_bl, eqv_is, eqv_si, eqv_sn, eqv_in, beq_self_eq_true, List.cons.injEq, exists_eq_left', forall_eq', exists_eq', exists_eq_left, exists_eq_right, Bool.and_self, Bool.or_self, Bool.or_true, Bool.or_false]
        have nx : ∀ z, (if act = TELL then telling dn ++ [(q, .int w)] else telling dn) = z → N z := fun z hz => hN _ ⟨dn ++ [(q, letD k act a w)], rs, by rw [e, List.append_assoc]; rfl, rfl, by rw [ht, hz]⟩
        refine ite2 (fun c => ⟨hlen, ?_⟩) fun c => nx _ (if_neg c)
        rw [hp]
        exact nx _ (if_pos c)
  · rintro d ds Γ N ⟨done, kvs, c4, c5, e, rfl, hd, hk⟩ hN
    have im : isL d := hin d (by rw [e]; simp)
    have an := atom_ok im
    have hk2 : kvs.length < 16777216 := by
      have := congrArg List.length e
      rw [List.length_append, List.length_cons] at this
      omega
    have filt : ∀ b : Bool, decide ((keyL d).1 ≤ i) = b → (done ++ [d]).filter (fun l => decide ((keyL l).1 ≤ i)) = if b = true then done.filter (fun l => decide ((keyL l).1 ≤ i)) ++ [d] else done.filter fun l => decide ((keyL l).1 ≤ i) := by
      intro b hb
      rw [List.filter_append, List.filter_cons, hb]
      cases b <;> simp
    have dn2 : cs = (done ++ [d]) ++ ds := by rw [e, List.append_assoc]; rfl
    have l2 : (done ++ [d]).length = done.length + 1 := by rw [List.length_append]; rfl
    have fp := hd.put (l := d) (nkey_ky an)
    have fk := fun m => hd.keep (l := d) (m := m) (nkey_ky an)
    have pl := put_len (kvs := kvs) (q := atomL d) (v := d)
    have nx : ∀ kvs' c4 c5, Dec ((done ++ [d]).filter fun l => decide ((keyL l).1 ≤ i)) kvs' → kvs'.length ≤ kvs.length + 1 → N [Cel.bo (.lst ms), .bo (.int i), .bo (.int j), .ow a1 (.dit kvs'), c4, c5] := fun kvs' c4 c5 h1 h2 => hN _ ⟨done ++ [d], kvs', c4, c5, dn2, rfl, h1, by rw [l2]; omega⟩
    have old : ∀ m, look kvs (atomL d) = some m → isL m := fun m hm => hin m (by
      have := (hd.mx _ (look_some hd.ky (nkey_ky an) hm)).1
      rw [e]
      exact List.mem_append_left _ (List.mem_filter.mp this).1)
    obtain ⟨k, act, a, w, rfl, la, lact⟩ := im
    have an : a.nkey = true := an
    cases hlk : look kvs a with
    | none =>
      have hi : (look kvs a).isSome = false := by rw [hlk]; rfl
      simp only [letD, lA0, lA4, hi, hlk, an, r_wVar, r_wView, r_wOwn, r_wC, r_wFlat, r_wNewD, r_wNewT, r_wOp, r_wNeg, r_wIsN, r_wNotN, r_wIsB, r_wTest, r_wAnd, r_wOr, r_wNot, r_wAndV, r_wOrV, r_wNotV, r_wIf, r_wChain, r_wNil, r_wCons, r_wTup, r_wLst, r_wCall, r_wFn, r_wIsI, r_woN, r_woS, r_wSlice, r_wMt, r_wMt0, r_wRange1, r_wRange2, r_wItems, r_wBoIt, r_wOwIt, r_wKeys, r_gNm, r_gsNil, r_gsCons, r_gTp, r_wYes, r_wComp, r_wDComp, r_wDCompT, r_wNext, r_wSeq, r_wBreak, r_wCont, r_wExpr, r_wRet, r_wRetN, r_wIfS, r_wAsg, r_wOwnAsg, r_wFrz, r_wAppend, r_wInsert, r_wExtend, r_wClear, r_wClearT, r_wPopT, r_wPopTo, r_wSetIx, r_wFor, r_wForOw, r_fLen, r_fAbs, r_fMin2, r_fMax2, r_fInt, r_fStr, r_fList, r_fTuple, r_fDict, r_fAll, r_fAny, r_mCount, r_mRfind, r_mFind, r_mStarts, r_mEnds, r_mSplit, r_mJoin, r_mIsupper, r_mIsalnum, r_mIsalpha, r_mIsdigit, r_mLower, r_wipe, r_wipe2, oAdd, oSub, oMul, oMod, oFdiv, oPow, oEq, oNe, oLt, oLe, oGt, oGe, oIn, oNin, oIx, inD, frz, setIx, dicIt, boIt, owIt, startD, cellVw, cellSh, cellOw, kInt, kStr, kBl, kLst, kDic, kTup, plain2, scal2, D.scal, D.flat, D.isNon, D.isBl, D.isTy, D.dat, D.key, celOf, List.replicate, List.getElem?_cons_zero, List.getElem?_cons_succ, List.set_cons_zero, List.set_cons_succ, Option.getD_some, forall_exists_index, and_imp, forall_eq, forall_eq_apply_imp_iff, forall_apply_eq_imp_iff, if_true, if_false, Bool.not_true, Bool.not_false, Bool.not_eq_true', Bool.true_and, Bool.and_true, Bool.false_and, Bool.and_false, Bool.false_eq_true, Bool.true_eq_false, ite_true, ite_false, reduceIte, true_and, and_true, false_or, or_false, true_or, or_true, atD0, atD1, atD2, Option.some.injEq, List.length_map, all_int, all_str, all_chr, all_bl, all_words, beq_iff_eq, Int.reduceLT, Int.reduceLE, Int.reduceEq, Int.reduceNeg, Int.reduceBEq, Int.reduceToNat, Int.reducePow, Nat.reduceAdd, Nat.reduceLT, Nat.reduceLeDiff, Bool.not_eq_eq_eq_not, decide_eq_true_eq, List.length_cons, List.length_nil, un, bin, tri, isTok, SZ, D.dic.injEq, D.dit.injEq, D.str.injEq, D.int.injEq, D.lst.injEq, D.bl.injEq, eqv_str, eqv_int, eqv_bl, eqv_is, eqv_si, eqv_sn, eqv_in, beq_self_eq_true, List.cons.injEq, exists_eq_left', forall_eq', exists_eq', exists_eq_left, exists_eq_right, Bool.and_self, Bool.or_self, Bool.or_true, Bool.or_false]
      refine ite2 (fun c => ⟨hk2, nx _ _ _ ?_ pl⟩) fun c => nx _ _ _ ?_ (by omega)
      · rw [filt true (decide_eq_true c), if_pos rfl]
        exact fp fun m hm => by rw [show atomL (letD k act a w) = a from rfl, hlk] at hm; cases hm
      · rw [filt false (decide_eq_false c), if_neg (by decide)]
        exact hd
    | some m =>
      obtain ⟨k', act', a', w', rfl, la', lact'⟩ := old m hlk
      have hi : (look kvs a).isSome = true := by rw [hlk]; rfl
      have hlk2 := hlk
      unfold letD at hlk2
      simp only [letD, lA0, lA4, lC3, hlk2, an, Option.isSome_some, r_wVar, r_wView, r_wOwn, r_wC, r_wFlat, r_wNewD, r_wNewT, r_wOp, r_wNeg, r_wIsN, r_wNotN, r_wIsB, r_wTest, r_wAnd, r_wOr, r_wNot, r_wAndV, r_wOrV, r_wNotV, r_wIf, r_wChain, r_wNil, r_wCons, r_wTup, r_wLst, r_wCall, r_wFn, r_wIsI, r_woN, r_woS, r_wSlice, r_wMt, r_wMt0, r_wRange1, r_wRange2, r_wItems, r_wBoIt, r_wOwIt, r_wKeys, r_gNm, r_gsNil, r_gsCons, r_gTp, r_wYes, r_wComp, r_wDComp, r_wDCompT, r_wNext, r_wSeq, r_wBreak, r_wCont, r_wExpr, r_wRet, r_wRetN, r_wIfS, r_wAsg, r_wOwnAsg, r_wFrz, r_wAppend, r_wInsert, r_wExtend, r_wClear, r_wClearT, r_wPopT, r_wPopTo, r_wSetIx, r_wFor, r_wForOw, r_fLen, r_fAbs, r_fMin2, r_fMax2, r_fInt, r_fStr, r_fList, r_fTuple, r_fDict, r_fAll, r_fAny, r_mCount, r_mRfind, r_mFind, r_mStarts, r_mEnds, r_mSplit, r_mJoin, r_mIsupper, r_mIsalnum, r_mIsalpha, r_mIsdigit, r_mLower, r_wipe, r_wipe2, oAdd, oSub, oMul, oMod, oFdiv, oPow, oEq, oNe, oLt, oLe, oGt, oGe, oIn, oNin, oIx, inD, frz, setIx, dicIt, boIt, owIt, startD, cellVw, cellSh, cellOw, kInt, kStr, kBl, kLst, kDic, kTup, plain2, scal2, D.scal, D.flat, D.isNon, D.isBl, D.isTy, D.dat, D.key, celOf, List.replicate, List.getElem?_cons_zero, List.getElem?_cons_succ, List.set_cons_zero, List.set_cons_succ, Option.getD_some, forall_exists_index, and_imp, forall_eq, forall_eq_apply_imp_iff, forall_apply_eq_imp_iff, if_true, if_false, Bool.not_true, Bool.not_false, Bool.not_eq_true', Bool.true_and, Bool.and_true, Bool.false_and, Bool.and_false, Bool.false_eq_true, Bool.true_eq_false, ite_true, ite_false, reduceIte, true_and, and_true, false_or, or_false, true_or, or_true, atD0, atD1, atD2, Option.some.injEq, List.length_map, all_int, all_str, all_chr, all_bl, all_words, beq_iff_eq, Int.reduceLT, Int.reduceLE, Int.reduceEq, Int.reduceNeg, Int.reduceBEq, Int.reduceToNat, Int.reducePow, Nat.reduceAdd, Nat.reduceLT, Nat.reduceLeDiff, Bool.not_eq_eq_eq_not, decide_eq_true_eq, List.length_cons, List.length_nil, un, bin, tri, isTok, SZ, D.dic.injEq, D.dit.injEq, D.str.injEq, D.int.injEq, D.lst.injEq, D.bl.injEq, eqv_str, eqv_int, eqv_bl, eqv_is, eqv_si, eqv_sn, eqv_in, beq_self_eq_true, List.cons.injEq, exists_eq_left', forall_eq', exists_eq', exists_eq_left, exists_eq_right, Bool.and_self, Bool.or_self, Bool.or_true, Bool.or_false]
      rw [ints3, ints3]
      refine ite2 (fun c => ?_) fun c => nx _ _ _ ?_ (by omega)
      · refine ⟨_, _, rfl, rfl, ?_⟩
        rw [lexI_lt3]
        refine ite2 (fun g => ⟨hk2, nx _ _ _ ?_ pl⟩) fun g => nx _ _ _ ?_ (by omega)
        · rw [filt true (decide_eq_true c), if_pos rfl]
          refine fp fun m hm => ?_
          rw [show atomL (letD k act a w) = a from rfl, hlk] at hm
          cases hm
          exact g
        · rw [filt true (decide_eq_true c), if_pos rfl]
          exact fk _ hlk (Bool.eq_false_iff.mpr g)
      · rw [filt false (decide_eq_false c), if_neg (by decide)]
        exact hd
end K83

namespace K83
open DL
/-- the last letter about a tells it with the weight w -/
def Last (ys : List D) (a w : D) : Prop := ∃ p1 l p2, ys = p1 ++ l :: p2 ∧ atomL l = a ∧ tellL l = true ∧ weightL l = w ∧ ∀ l' ∈ p2, atomL l' ≠ a
theorem last_app {ys : List D} {l a w : D} : Last (ys ++ [l]) a w ↔ (atomL l = a ∧ tellL l = true ∧ weightL l = w) ∨ (atomL l ≠ a ∧ Last ys a w) := by
  constructor
  · rintro ⟨p1, m, p2, e, h1, h2, h3, h4⟩
    rcases List.eq_nil_or_concat p2 with rfl | ⟨q, x, rfl⟩
    · have := List.append_inj' e rfl
      cases this.2
      exact .inl ⟨h1, h2, h3⟩
    · rw [show p1 ++ m :: (q.concat x) = (p1 ++ m :: q) ++ [x] by simp] at e
      have := List.append_inj' e rfl
      cases this.2
      refine .inr ⟨h4 l (by simp), p1, m, q, this.1, h1, h2, h3, fun l' hl' => h4 l' (by simp [hl'])⟩
  · rintro (⟨h1, h2, h3⟩ | ⟨n, p1, m, p2, e, h1, h2, h3, h4⟩)
    · exact ⟨ys, l, [], rfl, h1, h2, h3, fun l' h => (List.not_mem_nil h).elim⟩
    · refine ⟨p1, m, p2 ++ [l], by rw [e]; simp, h1, h2, h3, fun l' h => ?_⟩
      rcases List.mem_append.mp h with h | h
      · exact h4 l' h
      · have e : l' = l := by simpa using h
        rw [e]; exact n
structure Rp (ys : List D) (kvs : List (D × D)) : Prop where
  nd : (kvs.map (·.1)).Nodup
  ky : Keyed kvs
  mem : ∀ a w, (a, w) ∈ kvs ↔ Last ys a w
theorem Rp.nil : Rp [] [] := ⟨List.nodup_nil, fun p h => (List.not_mem_nil h).elim, fun a w => ⟨fun h => (List.not_mem_nil h).elim, fun ⟨p1, l, p2, e, _⟩ => by simp at e⟩⟩
theorem mem_look {kvs : List (D × D)} (hk : Keyed kvs) (nd : (kvs.map (·.1)).Nodup) {b u : D} (hb : b.ky = true) : (b, u) ∈ kvs ↔ look kvs b = some u := ⟨look_mem hk nd, look_some hk hb⟩
theorem keyed_put {kvs : List (D × D)} {q v : D} (hk : Keyed kvs) (hq : q.ky = true) : Keyed (put kvs q v) := fun p hp => by
  rcases put_mem hk hq hp with rfl | hp
  · exact hq
  · exact hk p hp
theorem put_iff {kvs : List (D × D)} {q v b u : D} (hk : Keyed kvs) (nd : (kvs.map (·.1)).Nodup) (hq : q.ky = true) : (b, u) ∈ put kvs q v ↔ (q = b ∧ v = u) ∨ (q ≠ b ∧ (b, u) ∈ kvs) := by
  have kp := keyed_put (v := v) hk hq
  have np := put_nodup (v := v) hk hq nd
  constructor
  · intro h
    have hb : b.ky = true := kp _ h
    have h := (mem_look kp np hb).1 h
    rw [look_put hk hq hb] at h
    by_cases c : q.eqv b = true
    · rw [if_pos c] at h
      cases h
      exact .inl ⟨(eqv_key hq hb).1 c, rfl⟩
    · rw [if_neg c] at h
      exact .inr ⟨fun e => c ((eqv_key hq hb).2 e), (mem_look hk nd hb).2 h⟩
  · rintro (⟨rfl, rfl⟩ | ⟨n, h⟩)
    · refine (mem_look kp np hq).2 ?_
      rw [look_put hk hq hq, if_pos ((eqv_key hq hq).2 rfl)]
    · have hb : b.ky = true := hk _ h
      refine (mem_look kp np hb).2 ?_
      rw [look_put hk hq hb, if_neg fun c => n ((eqv_key hq hb).1 c)]
      exact (mem_look hk nd hb).1 h
theorem Rp.tell {ys : List D} {kvs : List (D × D)} {l : D} (h : Rp ys kvs) (hq : (atomL l).ky = true) (ht : tellL l = true) : Rp (ys ++ [l]) (put kvs (atomL l) (weightL l)) := by
  refine ⟨put_nodup h.ky hq h.nd, keyed_put h.ky hq, fun a w => ?_⟩
  rw [put_iff h.ky h.nd hq, last_app, h.mem]
  constructor
  · rintro (⟨e1, e2⟩ | g)
    · exact .inl ⟨e1, ht, e2⟩
    · exact .inr g
  · rintro (⟨e1, _, e2⟩ | g)
    · exact .inl ⟨e1, e2⟩
    · exact .inr g
theorem Rp.gone {ys : List D} {kvs : List (D × D)} {l : D} (h : Rp ys kvs) (hq : (atomL l).ky = true) (ht : tellL l = false) : Rp (ys ++ [l]) (drop kvs (atomL l)) := by
  refine ⟨h.nd.sublist (List.filter_sublist.map _), fun p hp => h.ky p (List.mem_filter.mp hp).1, fun a w => ?_⟩
  rw [last_app, ← h.mem]
  unfold drop
  rw [List.mem_filter]
  constructor
  · rintro ⟨m, g⟩
    refine .inr ⟨fun e => ?_, m⟩
    rw [show ((a, w) : D × D).1.eqv (atomL l) = true by rw [e]; exact (eqv_key (h.ky _ m) (h.ky _ m)).2 rfl] at g
    cases g
  · rintro (⟨_, e, _⟩ | ⟨n, m⟩)
    · rw [ht] at e; cases e
    · refine ⟨m, ?_⟩
      have : ¬ a.eqv (atomL l) = true := fun e => n ((eqv_key (h.ky _ m) hq).1 e).symm
      simpa using this
theorem Rp.same {ys : List D} {kvs : List (D × D)} {l : D} (h : Rp ys kvs) (hq : (atomL l).ky = true) (ht : tellL l = false) (hn : look kvs (atomL l) = none) : Rp (ys ++ [l]) kvs := by
  refine ⟨h.nd, h.ky, fun a w => ?_⟩
  rw [last_app, ← h.mem]
  constructor
  · intro m
    refine .inr ⟨fun e => ?_, m⟩
    exact (look_none h.ky hq).1 hn (List.mem_map.mpr ⟨_, m, e.symm⟩)
  · rintro (⟨_, e, _⟩ | ⟨n, m⟩)
    · rw [ht] at e; cases e
    · exact m
theorem split_last {a : D} : ∀ (ys : List D), (∃ l ∈ ys, atomL l = a) → ∃ p1 m p2, ys = p1 ++ m :: p2 ∧ atomL m = a ∧ ∀ l' ∈ p2, atomL l' ≠ a
  | [], ⟨l, h, _⟩ => (List.not_mem_nil h).elim
  | y :: ys, ⟨l, h, e⟩ => by
    by_cases c : ∃ l ∈ ys, atomL l = a
    · obtain ⟨p1, m, p2, e1, e2, e3⟩ := split_last ys c
      exact ⟨y :: p1, m, p2, by rw [e1]; rfl, e2, e3⟩
    · rcases List.mem_cons.mp h with rfl | h
      · exact ⟨[], l, ys, rfl, e, fun l' h' e' => c ⟨l', h', e'⟩⟩
      · exact (c ⟨l, h, e⟩).elim
theorem Rp.facts {V ys : List D} {kvs : List (D × D)} (h : Rp ys kvs) (hl : kvs.length ≤ 1000) (hp : ys.Perm V) (ho : ys.Pairwise fun p q => lt3 (keyL q) (keyL p) = false) (hu : ∀ y ∈ V, ∀ z ∈ V, keyL y = keyL z → y = z) : Facts V (.dit kvs) := by
  refine ⟨_, rfl, h.nd, hl, fun a w => ?_⟩
  rw [h.mem]
  constructor
  · rintro ⟨p1, l, p2, e, h1, h2, h3, h4⟩
    refine ⟨l, hp.mem_iff.1 (by rw [e]; simp), h1, h2, h3, fun l' hl' ea => ?_⟩
    have hm := hp.mem_iff.2 hl'
    rw [e, List.mem_append, List.mem_cons] at hm
    rw [e, List.pairwise_append] at ho
    rcases hm with hm | rfl | hm
    · exact ho.2.2 l' hm l (List.mem_cons_self ..)
    · exact lt3_irr _
    · exact absurd ea (h4 l' hm)
  · rintro ⟨l, l1, l2, l3, l4, l5⟩
    have ly := hp.mem_iff.2 l1
    obtain ⟨p1, m, p2, e, h1, h4⟩ := split_last ys ⟨l, ly, l2⟩
    have my : m ∈ V := hp.mem_iff.1 (by rw [e]; simp)
    have : m = l := by
      rw [e, List.mem_append, List.mem_cons] at ly
      rw [e, List.pairwise_append] at ho
      rcases ly with hm | rfl | hm
      · exact hu _ my _ l1 (lt3_tri (ho.2.2 l hm m (List.mem_cons_self ..)) (l5 m my h1))
      · rfl
      · exact absurd l2 (h4 l hm)
    subst this
    exact ⟨p1, m, p2, e, h1, l3, l4, h4⟩
theorem vc__law_replayed : ∀ ds : List D, ds.length = 3 → S__law_replayed.pre ds → b__law_replayed { nx := fun _ => S__law_replayed.post ds .non, rt := S__law_replayed.post ds } (startD [false, false, false] ds 3) := by
  intro ds hl h
  match ds, h with
  | [x, y, z], h =>
  change kLst x (fun ms => kInt y fun i => kInt z fun j => okMail ms) at h
  obtain ⟨ms, rfl⟩ := kLst_is h
  change kInt y (fun i => kInt z fun j => okMail ms) at h
  obtain ⟨i, rfl⟩ := kInt_is h
  change kInt z (fun j => okMail ms) at h
  obtain ⟨j, rfl⟩ := kInt_is h
  have hx : okMail ms := h
  have hz := hx.1
  have post : ∀ d, Facts (seen ms i j) d → S__law_replayed.post [.lst ms, .int i, .int j] d := fun d h => h
  generalize S__law_replayed.post [.lst ms, .int i, .int j] = Q at post
  have hin : ∀ l ∈ cutD ms none (some j), isL l := fun l hl => hx.2.1 l (mem_cut hl)
  have cl : (cutD ms none (some j)).length ≤ 1000 := Nat.le_trans cut_le hz
  simp only [b__law_replayed, wSortL, r_wVar, r_wView, r_wOwn, r_wC, r_wFlat, r_wNewD, r_wNewT, r_wOp, r_wNeg, r_wIsN, r_wNotN, r_wIsB, r_wTest, r_wAnd, r_wOr, r_wNot, r_wAndV, r_wOrV, r_wNotV, r_wIf, r_wChain, r_wNil, r_wCons, r_wTup, r_wLst, r_wCall, r_wFn, r_wIsI, r_woN, r_woS, r_wSlice, r_wMt, r_wMt0, r_wRange1, r_wRange2, r_wItems, r_wBoIt, r_wOwIt, r_wKeys, r_gNm, r_gsNil, r_gsCons, r_gTp, r_wYes, r_wComp, r_wDComp, r_wDCompT, r_wNext, r_wSeq, r_wBreak, r_wCont, r_wExpr, r_wRet, r_wRetN, r_wIfS, r_wAsg, r_wOwnAsg, r_wFrz, r_wAppend, r_wInsert, r_wExtend, r_wClear, r_wClearT, r_wPopT, r_wPopTo, r_wSetIx, r_wFor, r_wForOw, r_fLen, r_fAbs, r_fMin2, r_fMax2, r_fInt, r_fStr, r_fList, r_fTuple, r_fDict, r_fAll, r_fAny, r_mCount, r_mRfind, r_mFind, r_mStarts, r_mEnds, r_mSplit, r_mJoin, r_mIsupper, r_mIsalnum, r_mIsalpha, r_mIsdigit, r_mLower, r_wipe, r_wipe2, oAdd, oSub, oMul, oMod, oFdiv, oPow, oEq, oNe, oLt, oLe, oGt, oGe, oIn, oNin, oIx, inD, frz, setIx, dicIt, boIt, owIt, startD, cellVw, cellSh, cellOw, kInt, kStr, kBl, kLst, kDic, kDit, kTup, plain2, scal2, D.scal, D.flat, D.isNon, D.isBl, D.isTy, D.dat, D.key, celOf, List.replicate, List.getElem?_cons_zero, List.getElem?_cons_succ, List.set_cons_zero, List.set_cons_succ, Option.getD_some, forall_exists_index, and_imp, forall_eq, forall_eq_apply_imp_iff, forall_apply_eq_imp_iff, if_true, if_false, Bool.not_true, Bool.not_false, Bool.not_eq_true', Bool.true_and, Bool.and_true, Bool.false_and, Bool.and_false, Bool.false_eq_true, Bool.true_eq_false, ite_true, ite_false, reduceIte, true_and, and_true, false_or, or_false, true_or, or_true, atD0, atD1, atD2, Option.some.injEq, List.length_map, all_int, all_str, all_chr, all_bl, all_words, beq_iff_eq, Int.reduceLT, Int.reduceLE, Int.reduceEq, Int.reduceNeg, Int.reduceBEq, Int.reduceToNat, Int.reducePow, Nat.reduceAdd, Nat.reduceLT, Nat.reduceLeDiff, Bool.not_eq_eq_eq_not, decide_eq_true_eq, List.length_cons, List.length_nil, un, bin, tri, isTok, SZ, D.dic.injEq, D.dit.injEq, D.str.injEq, D.int.injEq, D.lst.injEq, D.bl.injEq, eqv_str, eqv_int, eqv_bl, eqv_is, eqv_si, eqv_sn, eqv_in, beq_self_eq_true, List.cons.injEq, exists_eq_left', forall_eq', exists_eq', exists_eq_left, exists_eq_right, Bool.and_self, Bool.or_self, Bool.or_true, Bool.or_false]
  intro a1
  have pf : ∀ d, Facts ((cutD ms none (some j)).filter fun l => decide ((keyL l).1 ≤ i)) d → Q d := post
  have pu : ∀ y ∈ (cutD ms none (some j)).filter fun l => decide ((keyL l).1 ≤ i), ∀ z ∈ (cutD ms none (some j)).filter fun l => decide ((keyL l).1 ≤ i), keyL y = keyL z → y = z :=
    fun y hy z hz => hx.2.2 y (mem_cut (List.mem_filter.mp hy).1) z (mem_cut (List.mem_filter.mp hz).1)
  clear post
  generalize cutD ms none (some j) = cs at hin cl pf pu ⊢
  refine compD_ind (fun ds acc => ∃ done, cs = done ++ ds ∧ acc = done.filter fun l => decide ((keyL l).1 ≤ i)) ?_ ?_ _ _ ⟨[], rfl, rfl⟩
  · rintro acc ⟨done, e, rfl⟩
    rw [List.append_nil] at e
    subst e
    have vl : (cs.filter fun l => decide ((keyL l).1 ≤ i)).length ≤ 1000 := Nat.le_trans (List.length_filter_le ..) cl
    have vi : ∀ l ∈ cs.filter fun l => decide ((keyL l).1 ≤ i), isL l := fun l hl => hin l (List.mem_filter.mp hl).1
    generalize (cs.filter fun l => decide ((keyL l).1 ≤ i)) = V at pf pu vl vi ⊢
    show ∃ key : D → K3, okK3 key V ∧ _
    refine ⟨keyL, ⟨fun y hy => ⟨?_, isL_plain (vi y hy)⟩, pu⟩, fun ys hp ho => ?_⟩
    · obtain ⟨k, act, a, w, rfl, _⟩ := vi y hy
      exact ⟨_, rfl⟩
    · have yl : ys.length ≤ 1000 := by rw [hp.length_eq]; exact vl
      have yi : ∀ l ∈ ys, isL l := fun l hl => vi l (hp.mem_iff.1 hl)
      refine forD_ind (fun ds Γ => ∃ done kvs c4 c5, ys = done ++ ds ∧ Γ = [Cel.bo (.lst ms), .bo (.int i), .bo (.int j), .ow a1 (.dit kvs), c4, c5] ∧ Rp done kvs ∧ kvs.length ≤ done.length) ?_ ?_ _ _ ⟨[], [], _, _, rfl, rfl, Rp.nil, Nat.le_refl _⟩
      · rintro Γ ⟨done, kvs, c4, c5, e, rfl, hd, hk⟩
        rw [List.append_nil] at e
        subst e
        simp only [r_wVar, r_wView, r_wOwn, r_wC, r_wFlat, r_wNewD, r_wNewT, r_wOp, r_wNeg, r_wIsN, r_wNotN, r_wIsB, r_wTest, r_wAnd, r_wOr, r_wNot, r_wAndV, r_wOrV, r_wNotV, r_wIf, r_wChain, r_wNil, r_wCons, r_wTup, r_wLst, r_wCall, r_wFn, r_wIsI, r_woN, r_woS, r_wSlice, r_wMt, r_wMt0, r_wRange1, r_wRange2, r_wItems, r_wBoIt, r_wOwIt, r_wKeys, r_gNm, r_gsNil, r_gsCons, r_gTp, r_wYes, r_wComp, r_wDComp, r_wDCompT, r_wNext, r_wSeq, r_wBreak, r_wCont, r_wExpr, r_wRet, r_wRetN, r_wIfS, r_wAsg, r_wOwnAsg, r_wFrz, r_wAppend, r_wInsert, r_wExtend, r_wClear, r_wClearT, r_wPopT, r_wPopTo, r_wSetIx, r_wFor, r_wForOw, r_fLen, r_fAbs, r_fMin2, r_fMax2, r_fInt, r_fStr, r_fList, r_fTuple, r_fDict, r_fAll, r_fAny, r_mCount, r_mRfind, r_mFind, r_mStarts, r_mEnds, r_mSplit, r_mJoin, r_mIsupper, r_mIsalnum, r_mIsalpha, r_mIsdigit, r_mLower, r_wipe, r_wipe2, oAdd, oSub, oMul, oMod, oFdiv, oPow, oEq, oNe, oLt, oLe, oGt, oGe, oIn, oNin, oIx, inD, frz, setIx, dicIt, boIt, owIt, startD, cellVw, cellSh, cellOw, kInt, kStr, kBl, kLst, kDic, kDit, kTup, plain2, scal2, D.scal, D.flat, D.isNon, D.isBl, D.isTy, D.dat, D.key, celOf, List.replicate, List.getElem?_cons_zero, List.getElem?_cons_succ, List.set_cons_zero, List.set_cons_succ, Option.getD_some, forall_exists_index, and_imp, forall_eq, forall_eq_apply_imp_iff, forall_apply_eq_imp_iff, if_true, if_false, Bool.not_true, Bool.not_false, Bool.not_eq_true', Bool.true_and, Bool.and_true, Bool.false_and, Bool.and_false, Bool.false_eq_true, Bool.true_eq_false, ite_true, ite_false, reduceIte, true_and, and_true, false_or, or_false, true_or, or_true, atD0, atD1, atD2, Option.some.injEq, List.length_map, all_int, all_str, all_chr, all_bl, all_words, beq_iff_eq, Int.reduceLT, Int.reduceLE, Int.reduceEq, Int.reduceNeg, Int.reduceBEq, Int.reduceToNat, Int.reducePow, Nat.reduceAdd, Nat.reduceLT, Nat.reduceLeDiff, Bool.not_eq_eq_eq_not, decide_eq_true_eq, List.length_cons, List.length_nil, un, bin, tri, isTok, SZ, D.dic.injEq, D.dit.injEq, D.str.injEq, D.int.injEq, D.lst.injEq, D.bl.injEq, eqv_str, eqv_int, eqv_bl, eqv_is, eqv_si, eqv_sn, eqv_in, beq_self_eq_true, List.cons.injEq, exists_eq_left', forall_eq', exists_eq', exists_eq_left, exists_eq_right, Bool.and_self, Bool.or_self, Bool.or_true, Bool.or_false]
        exact pf _ (hd.facts (by omega) hp ho pu)
      · rintro d ds Γ N ⟨done, kvs, c4, c5, e, rfl, hd, hk⟩ hN
        have im : isL d := yi d (by rw [e]; simp)
        have an := atom_ok im
        have hk2 : kvs.length < 16777216 := by
          have := congrArg List.length e
          rw [List.length_append, List.length_cons] at this
          omega
        have dn2 : ys = (done ++ [d]) ++ ds := by rw [e, List.append_assoc]; rfl
        have l2 : (done ++ [d]).length = done.length + 1 := by rw [List.length_append]; rfl
        have nx : ∀ kvs' c4 c5, Rp (done ++ [d]) kvs' → kvs'.length ≤ kvs.length + 1 → N [Cel.bo (.lst ms), .bo (.int i), .bo (.int j), .ow a1 (.dit kvs'), c4, c5] := fun kvs' c4 c5 h1 h2 => hN _ ⟨done ++ [d], kvs', c4, c5, dn2, rfl, h1, by rw [l2]; omega⟩
        have r1 := hd.tell (l := d) (nkey_ky an)
        have r2 := hd.gone (l := d) (nkey_ky an)
        have r3 := hd.same (l := d) (nkey_ky an)
        obtain ⟨k, act, a, w, rfl, la, lact⟩ := im
        have an : a.nkey = true := an
        have tl : tellL (letD k act a w) = (act == TELL) := rfl
        have pl := put_len (kvs := kvs) (q := a) (v := .int w)
        have dl : (drop kvs a).length ≤ kvs.length := List.length_filter_le ..
        simp only [letD, lA3, lA4, lA5, an, r_wVar, r_wView, r_wOwn, r_wC, r_wFlat, r_wNewD, r_wNewT, r_wOp, r_wNeg, r_wIsN, r_wNotN, r_wIsB, r_wTest, r_wAnd, r_wOr, r_wNot, r_wAndV, r_wOrV, r_wNotV, r_wIf, r_wChain, r_wNil, r_wCons, r_wTup, r_wLst, r_wCall, r_wFn, r_wIsI, r_woN, r_woS, r_wSlice, r_wMt, r_wMt0, r_wRange1, r_wRange2, r_wItems, r_wBoIt, r_wOwIt, r_wKeys, r_gNm, r_gsNil, r_gsCons, r_gTp, r_wYes, r_wComp, r_wDComp, r_wDCompT, r_wNext, r_wSeq, r_wBreak, r_wCont, r_wExpr, r_wRet, r_wRetN, r_wIfS, r_wAsg, r_wOwnAsg, r_wFrz, r_wAppend, r_wInsert, r_wExtend, r_wClear, r_wClearT, r_wPopT, r_wPopTo, r_wSetIx, r_wFor, r_wForOw, r_fLen, r_fAbs, r_fMin2, r_fMax2, r_fInt, r_fStr, r_fList, r_fTuple, r_fDict, r_fAll, r_fAny, r_mCount, r_mRfind, r_mFind, r_mStarts, r_mEnds, r_mSplit, r_mJoin, r_mIsupper, r_mIsalnum, r_mIsalpha, r_mIsdigit, r_mLower, r_wipe, r_wipe2, oAdd, oSub, oMul, oMod, oFdiv, oPow, oEq, oNe, oLt, oLe, oGt, oGe, oIn, oNin, oIx, inD, frz, setIx, dicIt, boIt, owIt, startD, cellVw, cellSh, cellOw, kInt, kStr, kBl, kLst, kDic, kDit, kTup, plain2, scal2, D.scal, D.flat, D.isNon, D.isBl, D.isTy, D.dat, D.key, celOf, List.replicate, List.getElem?_cons_zero, List.getElem?_cons_succ, List.set_cons_zero, List.set_cons_succ, Option.getD_some, forall_exists_index, and_imp, forall_eq, forall_eq_apply_imp_iff, forall_apply_eq_imp_iff, if_true, if_false, Bool.not_true, Bool.not_false, Bool.not_eq_true', Bool.true_and, Bool.and_true, Bool.false_and, Bool.and_false, Bool.false_eq_true, Bool.true_eq_false, ite_true, ite_false, reduceIte, true_and, and_true, false_or, or_false, true_or, or_true, atD0, atD1, atD2, Option.some.injEq, List.length_map, all_int, all_str, all_chr, all_bl, all_words, beq_iff_eq, Int.reduceLT, Int.reduceLE, Int.reduceEq, Int.reduceNeg, Int.reduceBEq, Int.reduceToNat, Int.reducePow, Nat.reduceAdd, Nat.reduceLT, Nat.reduceLeDiff, Bool.not_eq_eq_eq_not, decide_eq_true_eq, List.length_cons, List.length_nil, un, bin, tri, isTok, SZ, D.dic.injEq, D.dit.injEq, D.str.injEq, D.int.injEq, D.lst.injEq, D.bl.injEq, eqv_str, eqv_int, eqv_bl, eqv_is, eqv_si, eqv_sn, eqv_in, beq_self_eq_true, List.cons.injEq, exists_eq_left', forall_eq', exists_eq', exists_eq_left, exists_eq_right, Bool.and_self, Bool.or_self, Bool.or_true, Bool.or_false]
        refine ite2 (fun c => ⟨hk2, nx _ _ _ (r1 (by rw [tl, c]; rfl)) pl⟩) fun c => ?_
        have tf : tellL (letD k act a w) = false := by rw [tl]; exact Bool.eq_false_iff.mpr fun e => c (eq_of_beq e)
        refine ite2 (fun g => ⟨g, nx _ _ _ (r2 tf) (by omega)⟩) fun g => nx _ _ _ (r3 tf ?_) (by omega)
        show look kvs a = none
        simpa using g
  · rintro d ds acc N ⟨done, e, rfl⟩ hN
    obtain ⟨k, act, a, w, rfl, la, lact⟩ := hin d (by rw [e]; simp)
    have filt : ∀ b : Bool, decide (k.1 ≤ i) = b → (done ++ [letD k act a w]).filter (fun l => decide ((keyL l).1 ≤ i)) = if b = true then done.filter (fun l => decide ((keyL l).1 ≤ i)) ++ [letD k act a w] else done.filter fun l => decide ((keyL l).1 ≤ i) := by
      intro b hb
      rw [List.filter_append, List.filter_cons, show (keyL (letD k act a w)).1 = k.1 from rfl, hb]
      cases b <;> simp
    have dn2 : cs = (done ++ [letD k act a w]) ++ ds := by rw [e, List.append_assoc]; rfl
    have le : (List.filter (fun l => decide ((keyL l).1 ≤ i)) done).length < 16777216 := by
      have := congrArg List.length e
      rw [List.length_append, List.length_cons] at this
      have := List.length_filter_le (fun l => decide ((keyL l).1 ≤ i)) done
      omega
    simp only [letD, lA0, r_wVar, r_wView, r_wOwn, r_wC, r_wFlat, r_wNewD, r_wNewT, r_wOp, r_wNeg, r_wIsN, r_wNotN, r_wIsB, r_wTest, r_wAnd, r_wOr, r_wNot, r_wAndV, r_wOrV, r_wNotV, r_wIf, r_wChain, r_wNil, r_wCons, r_wTup, r_wLst, r_wCall, r_wFn, r_wIsI, r_woN, r_woS, r_wSlice, r_wMt, r_wMt0, r_wRange1, r_wRange2, r_wItems, r_wBoIt, r_wOwIt, r_wKeys, r_gNm, r_gsNil, r_gsCons, r_gTp, r_wYes, r_wComp, r_wDComp, r_wDCompT, r_wNext, r_wSeq, r_wBreak, r_wCont, r_wExpr, r_wRet, r_wRetN, r_wIfS, r_wAsg, r_wOwnAsg, r_wFrz, r_wAppend, r_wInsert, r_wExtend, r_wClear, r_wClearT, r_wPopT, r_wPopTo, r_wSetIx, r_wFor, r_wForOw, r_fLen, r_fAbs, r_fMin2, r_fMax2, r_fInt, r_fStr, r_fList, r_fTuple, r_fDict, r_fAll, r_fAny, r_mCount, r_mRfind, r_mFind, r_mStarts, r_mEnds, r_mSplit, r_mJoin, r_mIsupper, r_mIsalnum, r_mIsalpha, r_mIsdigit, r_mLower, r_wipe, r_wipe2, oAdd, oSub, oMul, oMod, oFdiv, oPow, oEq, oNe, oLt, oLe, oGt, oGe, oIn, oNin, oIx, inD, frz, setIx, dicIt, boIt, owIt, startD, cellVw, cellSh, cellOw, kInt, kStr, kBl, kLst, kDic, kDit, kTup, plain2, scal2, D.scal, D.flat, D.isNon, D.isBl, D.isTy, D.dat, D.key, celOf, List.replicate, List.getElem?_cons_zero, List.getElem?_cons_succ, List.set_cons_zero, List.set_cons_succ, Option.getD_some, forall_exists_index, and_imp, forall_eq, forall_eq_apply_imp_iff, forall_apply_eq_imp_iff, if_true, if_false, Bool.not_true, Bool.not_false, Bool.not_eq_true', Bool.true_and, Bool.and_true, Bool.false_and, Bool.and_false, Bool.false_eq_true, Bool.true_eq_false, ite_true, ite_false, reduceIte, true_and, and_true, false_or, or_false, true_or, or_true, atD0, atD1, atD2, Option.some.injEq, List.length_map, all_int, all_str, all_chr, all_bl, all_words, beq_iff_eq, Int.reduceLT, Int.reduceLE, Int.reduceEq, Int.reduceNeg, Int.reduceBEq, Int.reduceToNat, Int.reducePow, Nat.reduceAdd, Nat.reduceLT, Nat.reduceLeDiff, Bool.not_eq_eq_eq_not, decide_eq_true_eq, List.length_cons, List.length_nil, un, bin, tri, isTok, SZ, D.dic.injEq, D.dit.injEq, D.str.injEq, D.int.injEq, D.lst.injEq, D.bl.injEq, eqv_str, eqv_int, eqv_bl, eqv_is, eqv_si, eqv_sn, eqv_in, beq_self_eq_true, List.cons.injEq, exists_eq_left', forall_eq', exists_eq', exists_eq_left, exists_eq_right, Bool.and_self, Bool.or_self, Bool.or_true, Bool.or_false]
    refine ite2 (fun c => ⟨le, hN _ ⟨_, dn2, ?_⟩⟩) fun c => hN _ ⟨_, dn2, ?_⟩
    · rw [filt true (decide_eq_true c), if_pos rfl]; rfl
    · rw [filt false (decide_eq_false c), if_neg (by decide)]
end K83

namespace K83
open DL
theorem dd_mono : ∀ {n m : Nat} {x : D}, n ≤ m → x.dd n → x.dd m
  | 0, _, _, _, h => by cases h
  | n + 1, 0, _, l, _ => absurd l (by omega)
  | n + 1, m + 1, .non, _, _ => trivial
  | n + 1, m + 1, .bl _, _, _ => trivial
  | n + 1, m + 1, .int _, _, _ => trivial
  | n + 1, m + 1, .str _, _, _ => trivial
  | n + 1, m + 1, .tup xs, l, h => ⟨h.1, fun x hx => dd_mono (by omega) (h.2 x hx)⟩
  | n + 1, m + 1, .lst xs, l, h => ⟨h.1, fun x hx => dd_mono (by omega) (h.2 x hx)⟩
  | n + 1, m + 1, .dic _, _, h => (h : False).elim
  | n + 1, m + 1, .dit _, _, h => (h : False).elim
  | n + 1, m + 1, .tok, _, h => (h : False).elim
  | n + 1, m + 1, .scr _, _, h => (h : False).elim
theorem facts_perm {V : List D} {x y : D} (hx : Facts V x) (hy : Facts V y) : x.perm y := by
  obtain ⟨k1, rfl, n1, _, m1⟩ := hx
  obtain ⟨k2, rfl, n2, _, m2⟩ := hy
  show k1.Perm k2
  have nd : ∀ {k : List (D × D)}, (k.map (·.1)).Nodup → k.Nodup := fun {k} h => by
    induction k with
    | nil => exact List.nodup_nil
    | cons p k ih =>
      rw [List.map_cons, List.nodup_cons] at h
      rw [List.nodup_cons]
      exact ⟨fun hp => h.1 (List.mem_map.mpr ⟨p, hp, rfl⟩), ih h.2⟩
  refine (List.perm_ext_iff_of_nodup (nd n1) (nd n2)).mpr fun p => ?_
  obtain ⟨a, w⟩ := p
  rw [m1, m2]
theorem facts_ee {V : List D} {y : D} (hV : ∀ l ∈ V, isL l) (hy : Facts V y) : y.ee 8 := by
  obtain ⟨k2, rfl, n2, l2, m2⟩ := hy
  have key : ∀ p ∈ k2, okA p.1 ∧ ∃ i, p.2 = .int i := fun p hp => by
    obtain ⟨l, h1, h2, h3, h4, _⟩ := (m2 p.1 p.2).1 hp
    obtain ⟨k, act, a, w, rfl, ha, _⟩ := hV l h1
    rw [← h2, ← h4]
    exact ⟨ha, w, rfl⟩
  refine ⟨by decide, by omega, n2, fun p hp => ?_, fun p hp => ?_⟩
  · obtain ⟨⟨a1, a2, _⟩, _⟩ := key p hp
    exact ⟨a1, dd_mono (by decide) a2⟩
  · obtain ⟨_, i, e⟩ := key p hp
    rw [e]
    trivial
theorem facts_pre {V : List D} {x y : D} (hV : ∀ l ∈ V, isL l) (hx : Facts V x) (hy : Facts V y) : (S_same 8).pre [x, y] := same_pre (.inl ⟨facts_perm hx hy, facts_ee hV hy⟩)
theorem mail_ee {ms : List D} (h : okMail ms) : (S_same 8).pre [.lst ms, .lst ms] := by
  have hl := h.1
  have el : ∀ l ∈ ms, D.ee 7 l := fun l hl => by
    obtain ⟨k, act, a, w, rfl, ⟨_, ha, _⟩, _⟩ := h.2.1 l hl
    refine ⟨by simp, fun x hx => ?_⟩
    simp only [List.mem_cons, List.not_mem_nil, or_false] at hx
    rcases hx with rfl | rfl | rfl | rfl | rfl | rfl
    · trivial
    · trivial
    · trivial
    · trivial
    · exact dd_ee (dd_mono (by decide) ha)
    · trivial
  exact same_pre (.inl ⟨rfl, by omega, el⟩)
theorem facts_dit {V : List D} {d : D} : Facts V d ↔ ∃ kvs, d = .dit kvs ∧ Facts V (.dit kvs) := ⟨fun h => by
  obtain ⟨k, rfl, h⟩ := h
  exact ⟨k, rfl, k, rfl, h⟩, fun ⟨k, e, h⟩ => e ▸ h⟩
theorem facts_len {V : List D} {kvs : List (D × D)} (h : Facts V (.dit kvs)) : kvs.length ≤ 1000 := by
  obtain ⟨k, e, _, h, _⟩ := h
  cases e
  exact h
theorem mail_pre {xs : List D} {i : Int} : S__law_drawn_mail.pre [.tok, .lst xs, .int i] ↔ okAtoms xs ∧ 0 ≤ i ∧ i ≤ 200 := ⟨fun h => h.2, fun h => ⟨trivial, h⟩⟩
theorem mail_post {x y z d : D} : S__law_drawn_mail.post [x, y, z] d ↔ ∃ ms, d = .lst ms ∧ okMail ms := Iff.rfl
theorem other_pre {ms xs : List D} : S__law_other_mail.pre [.tok, .lst ms, .lst xs] ↔ okMail ms ∧ okAtoms xs := ⟨fun h => h.2, fun h => ⟨trivial, h⟩⟩
theorem other_post {x y z d : D} : S__law_other_mail.post [x, y, z] d ↔ ∃ ms, d = .lst ms ∧ okMail ms := Iff.rfl
theorem asked_pre {ms : List D} : S__law_asked_pairs.pre [.tok, .lst ms] ↔ okMail ms := ⟨fun h => h.2, fun h => ⟨trivial, h⟩⟩
theorem asked_post {x y d : D} : S__law_asked_pairs.post [x, y] d ↔ ∃ ps, d = .lst ps ∧ 1 ≤ ps.length ∧ ps.length ≤ 1000 ∧ ∀ p ∈ ps, isPair p := Iff.rfl
theorem atoms_pre : S__law_drawn_atoms.pre [.tok] ↔ True := ⟨fun _ => trivial, fun _ => trivial⟩
theorem atoms_post {x d : D} : S__law_drawn_atoms.post [x] d ↔ ∃ xs, d = .lst xs ∧ okAtoms xs := Iff.rfl
theorem fa_pre {ms : List D} {i j : Int} : S_facts_at.pre [.lst ms, .int i, .int j] ↔ okMail ms := Iff.rfl
theorem fa_post {ms : List D} {i j : Int} {d : D} : S_facts_at.post [.lst ms, .int i, .int j] d ↔ ∃ kvs, d = .dit kvs ∧ Facts (seen ms i j) (.dit kvs) := facts_dit
theorem re_pre {ms : List D} {i j : Int} : S__law_replayed.pre [.lst ms, .int i, .int j] ↔ okMail ms := Iff.rfl
theorem re_post {ms : List D} {i j : Int} {d : D} : S__law_replayed.post [.lst ms, .int i, .int j] d ↔ ∃ kvs, d = .dit kvs ∧ Facts (seen ms i j) (.dit kvs) := facts_dit
theorem all_lst {P : D → List D → Prop} : (∀ d x, d = D.lst x → P d x) ↔ ∀ x, P (.lst x) x := ⟨fun h x => h _ x rfl, fun h d x e => e ▸ h x⟩
theorem all_dit {P : D → List (D × D) → Prop} : (∀ d x, d = D.dit x → P d x) ↔ ∀ x, P (.dit x) x := ⟨fun h x => h _ x rfl, fun h d x e => e ▸ h x⟩
theorem vc_law : ∀ ds : List D, ds.length = 1 → S_law.pre ds → b_law { nx := fun _ => S_law.post ds .non, rt := S_law.post ds } (startD [false] ds 12) := by
  rintro ds hl ⟨ns, rfl, hn⟩
  have post : S_law.post [.scr (ns.map .int)] (.bl true) := rfl
  generalize S_law.post [.scr (ns.map .int)] = Q at post
  have pn : ∀ i : Int, 0 ≤ i → i < 1000000 → S_pool.pre [.scr (ns.map .int), .int i] := fun i h0 h1 => pool_pre hn h0 h1
  simp only [b_law, b_law_t121, pool_post, atoms_pre, atoms_post, all_lst, r_wVar, r_wView, r_wOwn, r_wC, r_wFlat, r_wNewD, r_wNewT, r_wOp, r_wNeg, r_wIsN, r_wNotN, r_wIsB, r_wTest, r_wAnd, r_wOr, r_wNot, r_wAndV, r_wOrV, r_wNotV, r_wIf, r_wChain, r_wNil, r_wCons, r_wTup, r_wLst, r_wCall, r_wFn, r_wIsI, r_woN, r_woS, r_wSlice, r_wMt, r_wMt0, r_wRange1, r_wRange2, r_wItems, r_wBoIt, r_wOwIt, r_wKeys, r_gNm, r_gsNil, r_gsCons, r_gTp, r_wYes, r_wComp, r_wDComp, r_wDCompT, r_wNext, r_wSeq, r_wBreak, r_wCont, r_wExpr, r_wRet, r_wRetN, r_wIfS, r_wAsg, r_wOwnAsg, r_wFrz, r_wAppend, r_wInsert, r_wExtend, r_wClear, r_wClearT, r_wPopT, r_wPopTo, r_wSetIx, r_wFor, r_wForOw, r_fLen, r_fAbs, r_fMin2, r_fMax2, r_fInt, r_fStr, r_fList, r_fTuple, r_fDict, r_fAll, r_fAny, r_mCount, r_mRfind, r_mFind, r_mStarts, r_mEnds, r_mSplit, r_mJoin, r_mIsupper, r_mIsalnum, r_mIsalpha, r_mIsdigit, r_mLower, r_wipe, r_wipe2, oAdd, oSub, oMul, oMod, oFdiv, oPow, oEq, oNe, oLt, oLe, oGt, oGe, oIn, oNin, oIx, inD, frz, setIx, dicIt, boIt, owIt, startD, cellVw, cellSh, cellOw, kInt, kStr, kBl, kLst, kDic, kDit, kTup, plain2, scal2, D.scal, D.flat, D.isNon, D.isBl, D.isTy, D.dat, D.key, celOf, List.replicate, List.getElem?_cons_zero, List.getElem?_cons_succ, List.set_cons_zero, List.set_cons_succ, Option.getD_some, forall_exists_index, and_imp, forall_eq, forall_eq_apply_imp_iff, forall_apply_eq_imp_iff, if_true, if_false, Bool.not_true, Bool.not_false, Bool.not_eq_true', Bool.true_and, Bool.and_true, Bool.false_and, Bool.and_false, Bool.false_eq_true, Bool.true_eq_false, ite_true, ite_false, reduceIte, true_and, and_true, false_or, or_false, true_or, or_true, atD0, atD1, atD2, Option.some.injEq, List.length_map, all_int, all_str, all_chr, all_bl, all_words, beq_iff_eq, Int.reduceLT, Int.reduceLE, Int.reduceEq, Int.reduceNeg, Int.reduceBEq, Int.reduceToNat, Int.reducePow, Nat.reduceAdd, Nat.reduceLT, Nat.reduceLeDiff, Bool.not_eq_eq_eq_not, decide_eq_true_eq, List.length_cons, List.length_nil, un, bin, tri, isTok, SZ, D.dic.injEq, D.dit.injEq, D.str.injEq, D.int.injEq, D.lst.injEq, D.bl.injEq, eqv_str, eqv_int, eqv_bl, eqv_is, eqv_si, eqv_sn, eqv_in, beq_self_eq_true, List.cons.injEq, exists_eq_left', forall_eq', exists_eq', exists_eq_left, exists_eq_right, Bool.and_self, Bool.or_self, Bool.or_true, Bool.or_false]
  refine ⟨pn 1 (by decide) (by decide), pn 0 (by decide) (by decide), fun xs hxs => ?_⟩
  have go : ∀ i : Int, 0 ≤ i → i ≤ 200 → b_law_t123 { nx := fun x => Q D.non, rt := Q } [Cel.bo (.scr (ns.map .int)), .sh .tok, .sh (.lst xs), .sh (.int i), .no, .no, .no, .no, .no, .no, .no, .no, .no] := by
    intro i i0 i1
    simp only [b_law_t123, b_law_t124, b_law_t125, b_law_t126, mail_pre, mail_post, other_pre, other_post, asked_pre, asked_post, all_lst, pool_post, r_wVar, r_wView, r_wOwn, r_wC, r_wFlat, r_wNewD, r_wNewT, r_wOp, r_wNeg, r_wIsN, r_wNotN, r_wIsB, r_wTest, r_wAnd, r_wOr, r_wNot, r_wAndV, r_wOrV, r_wNotV, r_wIf, r_wChain, r_wNil, r_wCons, r_wTup, r_wLst, r_wCall, r_wFn, r_wIsI, r_woN, r_woS, r_wSlice, r_wMt, r_wMt0, r_wRange1, r_wRange2, r_wItems, r_wBoIt, r_wOwIt, r_wKeys, r_gNm, r_gsNil, r_gsCons, r_gTp, r_wYes, r_wComp, r_wDComp, r_wDCompT, r_wNext, r_wSeq, r_wBreak, r_wCont, r_wExpr, r_wRet, r_wRetN, r_wIfS, r_wAsg, r_wOwnAsg, r_wFrz, r_wAppend, r_wInsert, r_wExtend, r_wClear, r_wClearT, r_wPopT, r_wPopTo, r_wSetIx, r_wFor, r_wForOw, r_fLen, r_fAbs, r_fMin2, r_fMax2, r_fInt, r_fStr, r_fList, r_fTuple, r_fDict, r_fAll, r_fAny, r_mCount, r_mRfind, r_mFind, r_mStarts, r_mEnds, r_mSplit, r_mJoin, r_mIsupper, r_mIsalnum, r_mIsalpha, r_mIsdigit, r_mLower, r_wipe, r_wipe2, oAdd, oSub, oMul, oMod, oFdiv, oPow, oEq, oNe, oLt, oLe, oGt, oGe, oIn, oNin, oIx, inD, frz, setIx, dicIt, boIt, owIt, startD, cellVw, cellSh, cellOw, kInt, kStr, kBl, kLst, kDic, kDit, kTup, plain2, scal2, D.scal, D.flat, D.isNon, D.isBl, D.isTy, D.dat, D.key, celOf, List.replicate, List.getElem?_cons_zero, List.getElem?_cons_succ, List.set_cons_zero, List.set_cons_succ, Option.getD_some, forall_exists_index, and_imp, forall_eq, forall_eq_apply_imp_iff, forall_apply_eq_imp_iff, if_true, if_false, Bool.not_true, Bool.not_false, Bool.not_eq_true', Bool.true_and, Bool.and_true, Bool.false_and, Bool.and_false, Bool.false_eq_true, Bool.true_eq_false, ite_true, ite_false, reduceIte, true_and, and_true, false_or, or_false, true_or, or_true, atD0, atD1, atD2, Option.some.injEq, List.length_map, all_int, all_str, all_chr, all_bl, all_words, beq_iff_eq, Int.reduceLT, Int.reduceLE, Int.reduceEq, Int.reduceNeg, Int.reduceBEq, Int.reduceToNat, Int.reducePow, Nat.reduceAdd, Nat.reduceLT, Nat.reduceLeDiff, Bool.not_eq_eq_eq_not, decide_eq_true_eq, List.length_cons, List.length_nil, un, bin, tri, isTok, SZ, D.dic.injEq, D.dit.injEq, D.str.injEq, D.int.injEq, D.lst.injEq, D.bl.injEq, eqv_str, eqv_int, eqv_bl, eqv_is, eqv_si, eqv_sn, eqv_in, beq_self_eq_true, List.cons.injEq, exists_eq_left', forall_eq', exists_eq', exists_eq_left, exists_eq_right, Bool.and_self, Bool.or_self, Bool.or_true, Bool.or_false]
    refine ⟨⟨hxs, i0, i1⟩, fun ms hms => ⟨pn 2 (by decide) (by decide), ⟨hms, hxs⟩, fun os hos => ⟨pn 3 (by decide) (by decide), hms, fun ps p1 p2 hps => ?_⟩⟩⟩
    have cl : (cutD ps none (some 1)).length ≤ 1000 := Nat.le_trans len_cut p2
    refine ⟨by omega, ?_⟩
    obtain ⟨q0, eq0, hq0⟩ := atD_lt (xs := ps) (k := 0) (Int.le_refl _) (by omega)
    obtain ⟨u0, v0, rfl⟩ := hps q0 hq0
    refine forD_ind (fun ds Γ => (∀ d ∈ ds, isPair d) ∧ ∃ c7 c8 c9 c10 c11 c12, Γ = [Cel.bo (.scr (ns.map .int)), .sh .tok, .sh (.lst xs), .sh (.int i), .sh (.lst ms), .sh (.lst os), .sh (.lst ps), c7, c8, c9, c10, c11, c12]) ?_ ?_ _ _ ?_
    · rintro Γ ⟨_, c7, c8, c9, c10, c11, c12, rfl⟩
      simp only [b_law_t139, r_wVar, r_wView, r_wOwn, r_wC, r_wFlat, r_wNewD, r_wNewT, r_wOp, r_wNeg, r_wIsN, r_wNotN, r_wIsB, r_wTest, r_wAnd, r_wOr, r_wNot, r_wAndV, r_wOrV, r_wNotV, r_wIf, r_wChain, r_wNil, r_wCons, r_wTup, r_wLst, r_wCall, r_wFn, r_wIsI, r_woN, r_woS, r_wSlice, r_wMt, r_wMt0, r_wRange1, r_wRange2, r_wItems, r_wBoIt, r_wOwIt, r_wKeys, r_gNm, r_gsNil, r_gsCons, r_gTp, r_wYes, r_wComp, r_wDComp, r_wDCompT, r_wNext, r_wSeq, r_wBreak, r_wCont, r_wExpr, r_wRet, r_wRetN, r_wIfS, r_wAsg, r_wOwnAsg, r_wFrz, r_wAppend, r_wInsert, r_wExtend, r_wClear, r_wClearT, r_wPopT, r_wPopTo, r_wSetIx, r_wFor, r_wForOw, r_fLen, r_fAbs, r_fMin2, r_fMax2, r_fInt, r_fStr, r_fList, r_fTuple, r_fDict, r_fAll, r_fAny, r_mCount, r_mRfind, r_mFind, r_mStarts, r_mEnds, r_mSplit, r_mJoin, r_mIsupper, r_mIsalnum, r_mIsalpha, r_mIsdigit, r_mLower, r_wipe, r_wipe2, oAdd, oSub, oMul, oMod, oFdiv, oPow, oEq, oNe, oLt, oLe, oGt, oGe, oIn, oNin, oIx, inD, frz, setIx, dicIt, boIt, owIt, startD, cellVw, cellSh, cellOw, kInt, kStr, kBl, kLst, kDic, kDit, kTup, plain2, scal2, D.scal, D.flat, D.isNon, D.isBl, D.isTy, D.dat, D.key, celOf, List.replicate, List.getElem?_cons_zero, List.getElem?_cons_succ, List.set_cons_zero, List.set_cons_succ, Option.getD_some, forall_exists_index, and_imp, forall_eq, forall_eq_apply_imp_iff, forall_apply_eq_imp_iff, if_true, if_false, Bool.not_true, Bool.not_false, Bool.not_eq_true', Bool.true_and, Bool.and_true, Bool.false_and, Bool.and_false, Bool.false_eq_true, Bool.true_eq_false, ite_true, ite_false, reduceIte, true_and, and_true, false_or, or_false, true_or, or_true, atD0, atD1, atD2, Option.some.injEq, List.length_map, all_int, all_str, all_chr, all_bl, all_words, beq_iff_eq, Int.reduceLT, Int.reduceLE, Int.reduceEq, Int.reduceNeg, Int.reduceBEq, Int.reduceToNat, Int.reducePow, Nat.reduceAdd, Nat.reduceLT, Nat.reduceLeDiff, Bool.not_eq_eq_eq_not, decide_eq_true_eq, List.length_cons, List.length_nil, un, bin, tri, isTok, SZ, D.dic.injEq, D.dit.injEq, D.str.injEq, D.int.injEq, D.lst.injEq, D.bl.injEq, eqv_str, eqv_int, eqv_bl, eqv_is, eqv_si, eqv_sn, eqv_in, beq_self_eq_true, List.cons.injEq, exists_eq_left', forall_eq', exists_eq', exists_eq_left, exists_eq_right, Bool.and_self, Bool.or_self, Bool.or_true, Bool.or_false]
      exact post
    · rintro d ds Γ N ⟨hd, c7, c8, c9, c10, c11, c12, rfl⟩ hN
      obtain ⟨u, v, rfl⟩ := hd d (List.mem_cons_self ..)
      have im : ∀ l ∈ seen ms u v, isL l := fun l hl => hms.2.1 l (seen_in l hl)
      have io : ∀ l ∈ seen os u v, isL l := fun l hl => hos.2.1 l (seen_in l hl)
      have sm := mail_ee hms
      have pl : (D.tup [.int u, .int v]).plain 60 = true := rfl
      have pl0 : (D.tup [.int u0, .int v0]).plain 60 = true := rfl
      simp only [b_law_l126, b_law_t128, b_law_t129, b_law_t130, b_law_t131, re_pre, re_post, fa_pre, fa_post, all_dit, hms, hos, eq0, pl, pl0, sm, same_eq, r_wVar, r_wView, r_wOwn, r_wC, r_wFlat, r_wNewD, r_wNewT, r_wOp, r_wNeg, r_wIsN, r_wNotN, r_wIsB, r_wTest, r_wAnd, r_wOr, r_wNot, r_wAndV, r_wOrV, r_wNotV, r_wIf, r_wChain, r_wNil, r_wCons, r_wTup, r_wLst, r_wCall, r_wFn, r_wIsI, r_woN, r_woS, r_wSlice, r_wMt, r_wMt0, r_wRange1, r_wRange2, r_wItems, r_wBoIt, r_wOwIt, r_wKeys, r_gNm, r_gsNil, r_gsCons, r_gTp, r_wYes, r_wComp, r_wDComp, r_wDCompT, r_wNext, r_wSeq, r_wBreak, r_wCont, r_wExpr, r_wRet, r_wRetN, r_wIfS, r_wAsg, r_wOwnAsg, r_wFrz, r_wAppend, r_wInsert, r_wExtend, r_wClear, r_wClearT, r_wPopT, r_wPopTo, r_wSetIx, r_wFor, r_wForOw, r_fLen, r_fAbs, r_fMin2, r_fMax2, r_fInt, r_fStr, r_fList, r_fTuple, r_fDict, r_fAll, r_fAny, r_mCount, r_mRfind, r_mFind, r_mStarts, r_mEnds, r_mSplit, r_mJoin, r_mIsupper, r_mIsalnum, r_mIsalpha, r_mIsdigit, r_mLower, r_wipe, r_wipe2, oAdd, oSub, oMul, oMod, oFdiv, oPow, oEq, oNe, oLt, oLe, oGt, oGe, oIn, oNin, oIx, inD, frz, setIx, dicIt, boIt, owIt, startD, cellVw, cellSh, cellOw, kInt, kStr, kBl, kLst, kDic, kDit, kTup, plain2, scal2, D.scal, D.flat, D.isNon, D.isBl, D.isTy, D.dat, D.key, celOf, List.replicate, List.getElem?_cons_zero, List.getElem?_cons_succ, List.set_cons_zero, List.set_cons_succ, Option.getD_some, forall_exists_index, and_imp, forall_eq, forall_eq_apply_imp_iff, forall_apply_eq_imp_iff, if_true, if_false, Bool.not_true, Bool.not_false, Bool.not_eq_true', Bool.true_and, Bool.and_true, Bool.false_and, Bool.and_false, Bool.false_eq_true, Bool.true_eq_false, ite_true, ite_false, reduceIte, true_and, and_true, false_or, or_false, true_or, or_true, atD0, atD1, atD2, Option.some.injEq, List.length_map, all_int, all_str, all_chr, all_bl, all_words, beq_iff_eq, Int.reduceLT, Int.reduceLE, Int.reduceEq, Int.reduceNeg, Int.reduceBEq, Int.reduceToNat, Int.reducePow, Nat.reduceAdd, Nat.reduceLT, Nat.reduceLeDiff, Bool.not_eq_eq_eq_not, decide_eq_true_eq, List.length_cons, List.length_nil, un, bin, tri, isTok, SZ, D.dic.injEq, D.dit.injEq, D.str.injEq, D.int.injEq, D.lst.injEq, D.bl.injEq, eqv_str, eqv_int, eqv_bl, eqv_is, eqv_si, eqv_sn, eqv_in, beq_self_eq_true, List.cons.injEq, exists_eq_left', forall_eq', exists_eq', exists_eq_left, exists_eq_right, Bool.and_self, Bool.or_self, Bool.or_true, Bool.or_false]
      have fin : ∀ (E : DEnds) (kx ko kt : List (D × D)) (p q : Nat) (c12 : Cel), E.nx = N → Facts (seen ms u v) (.dit kx) → Facts (seen os u v) (.dit ko) → Facts (seen ms u v) (.dit kt) →
          b_law_t133 E [Cel.bo (.scr (ns.map .int)), .sh .tok, .sh (.lst xs), .sh (.int i), .sh (.lst ms), .sh (.lst os), .sh (.lst ps), .sh (.tup [.int u, .int v]), .sh (.dit kx), .sh (.dit ko), .ow p (.lst ms), .ow q (.dit kt), c12] := by
        intro E kx ko kt p q c12 hE hx ho ht
        have s1 := facts_pre im ht hx
        have n1 : (D.tup [.str [115, 112, 111, 105, 108, 116], .tup []]).nkey = true := rfl
        have l1 := facts_len ht
        have nx : ∀ c7 c8 c9 c10 c11 c12, N [Cel.bo (.scr (ns.map .int)), .sh .tok, .sh (.lst xs), .sh (.int i), .sh (.lst ms), .sh (.lst os), .sh (.lst ps), c7, c8, c9, c10, c11, c12] := fun c7 c8 c9 c10 c11 c12 => hN _ ⟨fun d h => hd d (List.mem_cons_of_mem _ h), _, _, _, _, _, _, rfl⟩
        simp only [b_law_t133, b_law_t134, fa_pre, fa_post, all_dit, hos, r_wVar, r_wView, r_wOwn, r_wC, r_wFlat, r_wNewD, r_wNewT, r_wOp, r_wNeg, r_wIsN, r_wNotN, r_wIsB, r_wTest, r_wAnd, r_wOr, r_wNot, r_wAndV, r_wOrV, r_wNotV, r_wIf, r_wChain, r_wNil, r_wCons, r_wTup, r_wLst, r_wCall, r_wFn, r_wIsI, r_woN, r_woS, r_wSlice, r_wMt, r_wMt0, r_wRange1, r_wRange2, r_wItems, r_wBoIt, r_wOwIt, r_wKeys, r_gNm, r_gsNil, r_gsCons, r_gTp, r_wYes, r_wComp, r_wDComp, r_wDCompT, r_wNext, r_wSeq, r_wBreak, r_wCont, r_wExpr, r_wRet, r_wRetN, r_wIfS, r_wAsg, r_wOwnAsg, r_wFrz, r_wAppend, r_wInsert, r_wExtend, r_wClear, r_wClearT, r_wPopT, r_wPopTo, r_wSetIx, r_wFor, r_wForOw, r_fLen, r_fAbs, r_fMin2, r_fMax2, r_fInt, r_fStr, r_fList, r_fTuple, r_fDict, r_fAll, r_fAny, r_mCount, r_mRfind, r_mFind, r_mStarts, r_mEnds, r_mSplit, r_mJoin, r_mIsupper, r_mIsalnum, r_mIsalpha, r_mIsdigit, r_mLower, r_wipe, r_wipe2, oAdd, oSub, oMul, oMod, oFdiv, oPow, oEq, oNe, oLt, oLe, oGt, oGe, oIn, oNin, oIx, inD, frz, setIx, dicIt, boIt, owIt, startD, cellVw, cellSh, cellOw, kInt, kStr, kBl, kLst, kDic, kDit, kTup, plain2, scal2, D.scal, D.flat, D.isNon, D.isBl, D.isTy, D.dat, D.key, celOf, List.replicate, List.getElem?_cons_zero, List.getElem?_cons_succ, List.set_cons_zero, List.set_cons_succ, Option.getD_some, forall_exists_index, and_imp, forall_eq, forall_eq_apply_imp_iff, forall_apply_eq_imp_iff, if_true, if_false, Bool.not_true, Bool.not_false, Bool.not_eq_true', Bool.true_and, Bool.and_true, Bool.false_and, Bool.and_false, Bool.false_eq_true, Bool.true_eq_false, ite_true, ite_false, reduceIte, true_and, and_true, false_or, or_false, true_or, or_true, atD0, atD1, atD2, Option.some.injEq, List.length_map, all_int, all_str, all_chr, all_bl, all_words, beq_iff_eq, Int.reduceLT, Int.reduceLE, Int.reduceEq, Int.reduceNeg, Int.reduceBEq, Int.reduceToNat, Int.reducePow, Nat.reduceAdd, Nat.reduceLT, Nat.reduceLeDiff, Bool.not_eq_eq_eq_not, decide_eq_true_eq, List.length_cons, List.length_nil, un, bin, tri, isTok, SZ, D.dic.injEq, D.dit.injEq, D.str.injEq, D.int.injEq, D.lst.injEq, D.bl.injEq, eqv_str, eqv_int, eqv_bl, eqv_is, eqv_si, eqv_sn, eqv_in, beq_self_eq_true, List.cons.injEq, exists_eq_left', forall_eq', exists_eq', exists_eq_left, exists_eq_right, Bool.and_self, Bool.or_self, Bool.or_true, Bool.or_false]
        intro k2 h2 a2
        have s2 := facts_pre io h2 ho
        simp only [b_law_t135, b_law_t137, b_law_t138, s1, s2, n1, same_post, hE, r_wVar, r_wView, r_wOwn, r_wC, r_wFlat, r_wNewD, r_wNewT, r_wOp, r_wNeg, r_wIsN, r_wNotN, r_wIsB, r_wTest, r_wAnd, r_wOr, r_wNot, r_wAndV, r_wOrV, r_wNotV, r_wIf, r_wChain, r_wNil, r_wCons, r_wTup, r_wLst, r_wCall, r_wFn, r_wIsI, r_woN, r_woS, r_wSlice, r_wMt, r_wMt0, r_wRange1, r_wRange2, r_wItems, r_wBoIt, r_wOwIt, r_wKeys, r_gNm, r_gsNil, r_gsCons, r_gTp, r_wYes, r_wComp, r_wDComp, r_wDCompT, r_wNext, r_wSeq, r_wBreak, r_wCont, r_wExpr, r_wRet, r_wRetN, r_wIfS, r_wAsg, r_wOwnAsg, r_wFrz, r_wAppend, r_wInsert, r_wExtend, r_wClear, r_wClearT, r_wPopT, r_wPopTo, r_wSetIx, r_wFor, r_wForOw, r_fLen, r_fAbs, r_fMin2, r_fMax2, r_fInt, r_fStr, r_fList, r_fTuple, r_fDict, r_fAll, r_fAny, r_mCount, r_mRfind, r_mFind, r_mStarts, r_mEnds, r_mSplit, r_mJoin, r_mIsupper, r_mIsalnum, r_mIsalpha, r_mIsdigit, r_mLower, r_wipe, r_wipe2, oAdd, oSub, oMul, oMod, oFdiv, oPow, oEq, oNe, oLt, oLe, oGt, oGe, oIn, oNin, oIx, inD, frz, setIx, dicIt, boIt, owIt, startD, cellVw, cellSh, cellOw, kInt, kStr, kBl, kLst, kDic, kDit, kTup, plain2, scal2, D.scal, D.flat, D.isNon, D.isBl, D.isTy, D.dat, D.key, celOf, List.replicate, List.getElem?_cons_zero, List.getElem?_cons_succ, List.set_cons_zero, List.set_cons_succ, Option.getD_some, forall_exists_index, and_imp, forall_eq, forall_eq_apply_imp_iff, forall_apply_eq_imp_iff, if_true, if_false, Bool.not_true, Bool.not_false, Bool.not_eq_true', Bool.true_and, Bool.and_true, Bool.false_and, Bool.and_false, Bool.false_eq_true, Bool.true_eq_false, ite_true, ite_false, reduceIte, true_and, and_true, false_or, or_false, true_or, or_true, atD0, atD1, atD2, Option.some.injEq, List.length_map, all_int, all_str, all_chr, all_bl, all_words, beq_iff_eq, Int.reduceLT, Int.reduceLE, Int.reduceEq, Int.reduceNeg, Int.reduceBEq, Int.reduceToNat, Int.reducePow, Nat.reduceAdd, Nat.reduceLT, Nat.reduceLeDiff, Bool.not_eq_eq_eq_not, decide_eq_true_eq, List.length_cons, List.length_nil, un, bin, tri, isTok, SZ, D.dic.injEq, D.dit.injEq, D.str.injEq, D.int.injEq, D.lst.injEq, D.bl.injEq, eqv_str, eqv_int, eqv_bl, eqv_is, eqv_si, eqv_sn, eqv_in, beq_self_eq_true, List.cons.injEq, exists_eq_left', forall_eq', exists_eq', exists_eq_left, exists_eq_right, Bool.and_self, Bool.or_self, Bool.or_true, Bool.or_false]
        intro b b1 _
        cases b1 (facts_perm ht hx)
        rw [if_neg (by decide)]
        intro b b2 _
        cases b2 (facts_perm h2 ho)
        rw [if_neg (by decide)]
        exact ⟨by omega, nx _ _ _ _ _ _⟩
      exact fun kx hx ko ho p kt ht q => ite2 (fun _ => fin _ _ _ _ _ _ _ rfl hx ho ht) fun _ => fin _ _ _ _ _ _ _ rfl hx ho ht
    · refine ⟨fun d hd => ?_, _, _, _, _, _, _, rfl⟩
      rcases List.mem_append.mp hd with hd | hd
      · exact hps d hd
      · exact hps d (mem_cut hd)
  simp only [b_law_t122, draw_pre, draw_post, r_wVar, r_wView, r_wOwn, r_wC, r_wFlat, r_wNewD, r_wNewT, r_wOp, r_wNeg, r_wIsN, r_wNotN, r_wIsB, r_wTest, r_wAnd, r_wOr, r_wNot, r_wAndV, r_wOrV, r_wNotV, r_wIf, r_wChain, r_wNil, r_wCons, r_wTup, r_wLst, r_wCall, r_wFn, r_wIsI, r_woN, r_woS, r_wSlice, r_wMt, r_wMt0, r_wRange1, r_wRange2, r_wItems, r_wBoIt, r_wOwIt, r_wKeys, r_gNm, r_gsNil, r_gsCons, r_gTp, r_wYes, r_wComp, r_wDComp, r_wDCompT, r_wNext, r_wSeq, r_wBreak, r_wCont, r_wExpr, r_wRet, r_wRetN, r_wIfS, r_wAsg, r_wOwnAsg, r_wFrz, r_wAppend, r_wInsert, r_wExtend, r_wClear, r_wClearT, r_wPopT, r_wPopTo, r_wSetIx, r_wFor, r_wForOw, r_fLen, r_fAbs, r_fMin2, r_fMax2, r_fInt, r_fStr, r_fList, r_fTuple, r_fDict, r_fAll, r_fAny, r_mCount, r_mRfind, r_mFind, r_mStarts, r_mEnds, r_mSplit, r_mJoin, r_mIsupper, r_mIsalnum, r_mIsalpha, r_mIsdigit, r_mLower, r_wipe, r_wipe2, oAdd, oSub, oMul, oMod, oFdiv, oPow, oEq, oNe, oLt, oLe, oGt, oGe, oIn, oNin, oIx, inD, frz, setIx, dicIt, boIt, owIt, startD, cellVw, cellSh, cellOw, kInt, kStr, kBl, kLst, kDic, kDit, kTup, plain2, scal2, D.scal, D.flat, D.isNon, D.isBl, D.isTy, D.dat, D.key, celOf, List.replicate, List.getElem?_cons_zero, List.getElem?_cons_succ, List.set_cons_zero, List.set_cons_succ, Option.getD_some, forall_exists_index, and_imp, forall_eq, forall_eq_apply_imp_iff, forall_apply_eq_imp_iff, if_true, if_false, Bool.not_true, Bool.not_false, Bool.not_eq_true', Bool.true_and, Bool.and_true, Bool.false_and, Bool.and_false, Bool.false_eq_true, Bool.true_eq_false, ite_true, ite_false, reduceIte, true_and, and_true, false_or, or_false, true_or, or_true, atD0, atD1, atD2, Option.some.injEq, List.length_map, all_int, all_str, all_chr, all_bl, all_words, beq_iff_eq, Int.reduceLT, Int.reduceLE, Int.reduceEq, Int.reduceNeg, Int.reduceBEq, Int.reduceToNat, Int.reducePow, Nat.reduceAdd, Nat.reduceLT, Nat.reduceLeDiff, Bool.not_eq_eq_eq_not, decide_eq_true_eq, List.length_cons, List.length_nil, un, bin, tri, isTok, SZ, D.dic.injEq, D.dit.injEq, D.str.injEq, D.int.injEq, D.lst.injEq, D.bl.injEq, eqv_str, eqv_int, eqv_bl, eqv_is, eqv_si, eqv_sn, eqv_in, beq_self_eq_true, List.cons.injEq, exists_eq_left', forall_eq', exists_eq', exists_eq_left, exists_eq_right, Bool.and_self, Bool.or_self, Bool.or_true, Bool.or_false]
  exact fun x x0 x1 => ite2 (fun _ y y0 y1 => go _ (by omega) (by omega)) fun _ y y0 y1 => go _ (by omega) (by omega)
end K83

/-! The defs by their rules (printed by gen.py). -/
namespace K83
open PySem PySem.Spec PyProof.Rows L2 DL

def topS (i : Nat) : Stmt := PySem.Challenge.pw_rulemill_k83_facts_at_a_day.main.body.getD i (.Pass ⟨0, 0, 0, 0⟩)
abbrev s_facts_at : Stmt := topS 1
abbrev s__law_pool : Stmt := topS 3
abbrev s__law_draw : Stmt := topS 4
abbrev s__law_pick : Stmt := topS 5
abbrev s__law_word : Stmt := topS 6
abbrev s__law_same : Stmt := topS 7
abbrev s__law_drawn_atoms : Stmt := topS 8
abbrev s__law_drawn_mail : Stmt := topS 9
abbrev s__law_other_mail : Stmt := topS 10
abbrev s__law_asked_pairs : Stmt := topS 11
abbrev s__law_replayed : Stmt := topS 12
abbrev s_law : Stmt := topS 13
structure Zs (mg : Str → Option Value) : Prop where
  abs : mg "abs" = none
  bool : mg "bool" = none
  dict : mg "dict" = none
  int : mg "int" = none
  isinstance : mg "isinstance" = none
  len : mg "len" = none
  list : mg "list" = none
  max : mg "max" = none
  min : mg "min" = none
  range : mg "range" = none
  sorted : mg "sorted" = none
  str : mg "str" = none
  tuple : mg "tuple" = none
structure Cs (K : PySem.W.Frag) (mg : Str → Option Value) : Prop where
  ok : True
section
variable [WW] {P : Program} {w : World} {K : PySem.W.Frag} {mg : Str → Option Value} {base : Heap} [Lk w]
theorem sc_facts_at : FnScope ["letters", "day", "count", "deciding", "letter", "atom"] ["letters", "day", "count"] (defScope s_facts_at) := ⟨rfl, rfl, rfl, by decide +kernel, rfl, by decide +kernel, by decide +kernel⟩
theorem cal_facts_at {f : Addr} {fd : FuncData} (h : DefAt K mg "facts_at" s_facts_at ["letters", "day", "count"] f fd) (z : Zs mg) : Cal P w K mg base 1 "facts_at" [false, false, false] .fr S_facts_at :=
  cal_of h sc_facts_at [false, false, false] .fr S_facts_at b_facts_at rfl (fun cdv A outer s H E hr => (sxs_cons (sx_own 3 ef_newT)
  (sxs_cons (sx_for (ei_items (ef_slice (ev_var 0) eo_n (eo_s (ev_var 2))).ex) (eg_nm 4)
  (sxs_cons (sx_set 5 (ex_ix (ev_var 4) ex_int.ev))
  (sxs_one (sx_if (ew_and (et_cmp op_leD (ex_ix (ev_var 4) ex_int.ev).ev (ev_var 1)) (ew_and1 (ew_or (et_cmp op_ninT (ev_var 5) (ev_var 3)) (ew_or1 (et_cmp op_ltD (ef_slice (ex_ix (ev_var 3) (ev_var 5)).ev eo_n (eo_s ex_int.ev)).ev (ef_slice (ev_var 4) eo_n (eo_s ex_int.ev)).ev))).et)).et
  (sxs_one (sx_setIx 3 (ex_var 5) (ex_var 4)))
  sxs_nil))))
  (sxs_one (sx_frz 3 (sx_ret (ef_dcompKT (own := [("atom", 5)]) 3 (by decide +kernel) (ego_nm 5) (epts_one (et_cmp op_eqT (ex_ix (ex_ix (ev_var 3) (ev_var 5)).ev ex_int.ev).ev (ex_str [116, 101, 108, 108]).ev)) (ex_var 5) (ex_ix (ex_ix (ev_var 3) (ev_var 5)).ev ex_int.ev)).er)))))) vc_facts_at
theorem sc__law_pool : FnScope ["script", "at", "seed", "k", "big"] ["script", "at"] (defScope s__law_pool) := ⟨rfl, rfl, rfl, by decide +kernel, rfl, by decide +kernel, by decide +kernel⟩
theorem cal0__law_pool {f : Addr} {fd : FuncData} (h : DefAt K mg "_law_pool" s__law_pool ["script", "at"] f fd) (z : Zs mg) : Cal P w K mg base 1 "_law_pool" [false, false] .fr S_pool0 :=
  cal_of h sc__law_pool [false, false] .fr S_pool0 b_pool rfl (fun cdv A outer s H E hr => (sxs_cons (sx_set 2 (ef_op op_addD ex_int.ev (ef_op op_mulD (ev_var 1) ex_int.ev).ev).ex)
  (sxs_cons (sx_for (ei_range1 (ef_callB c_min2 z.min bt_min (ea_bo (ef_callB c_len z.len bt_len (ea_bo (ev_var 0) ea_nil)).ev (ea_bo ex_int.ev ea_nil))).ev z.range) (eg_nm 3)
  (sxs_one (sx_set 2 (ef_op op_modD (ef_callT c_int z.int bt_int (ea_bo (ef_op op_addD (ef_op op_addD (ef_op op_addD (ef_op op_mulD (ev_var 2) ex_int.ev).ev (ef_op op_modD (ef_callT c_int z.int bt_int (ea_bo (ef_callB c_abs z.abs bt_abs (ea_bo (ef_callT c_int z.int bt_int (ea_bo (ex_ix (ev_var 0) (ev_var 3)).ev ea_nil)).ev ea_nil)).ev ea_nil)).ev ex_int.ev).ev).ev (ef_op op_mulD (ev_var 3) ex_int.ev).ev).ev ex_int.ev).ev ea_nil)).ev ex_int.ev).ex)))
  (sxs_cons (sx_set 4 (ex_if (et_cmp op_ltD (ev_var 1) (ef_callB c_len z.len bt_len (ea_bo (ev_var 0) ea_nil)).ev) (ef_op op_addD (ef_op op_mulD ex_int.ev (ef_callB c_abs z.abs bt_abs (ea_bo (ef_callT c_int z.int bt_int (ea_bo (ex_ix (ev_var 0) (ev_var 1)).ev ea_nil)).ev ea_nil)).ev).ev (ef_callT c_int z.int bt_int (ea_bo (ef_cmp op_ltD (ef_callT c_int z.int bt_int (ea_bo (ex_ix (ev_var 0) (ev_var 1)).ev ea_nil)).ev ex_int.ev).ev ea_nil)).ev).ex ex_int))
  (sxs_one (sx_ret (ef_lst (ea_sh (ex_if (et_cmp op_geD (ev_var 4) (ef_op op_powD ex_int.ev ex_int.ev).ev) (ex_var 4) ex_int) (ea_sh (ex_var 2) (ea_sh ex_int ea_nil)))).er)))))) vc_pool
theorem cal__law_pool {f : Addr} {fd : FuncData} (h : DefAt K mg "_law_pool" s__law_pool ["script", "at"] f fd) (z : Zs mg) : Cal P w K mg base 1 "_law_pool" [false, false] .sh S_pool := pool_ok (cal0__law_pool h z)
theorem sc__law_draw : FnScope ["pool", "many", "told", "mixed"] ["pool", "many"] (defScope s__law_draw) := ⟨rfl, rfl, rfl, by decide +kernel, rfl, by decide +kernel, by decide +kernel⟩
theorem cal__law_draw {f : Addr} {fd : FuncData} (h : DefAt K mg "_law_draw" s__law_draw ["pool", "many"] f fd) (z : Zs mg) : Cal P w K mg base 1 "_law_draw" [false, false] .sh S_draw :=
  draw_ok h sc__law_draw fun cdv A outer s H E hr =>
    have nd := sc__law_draw.nd
    have mi := z.int
    pss_cons (ps_if (pt_cmpR op_gt (pe_ix ix_list (pv 0) pe_int (fun _ _ => rfl)) pe_int (nomark _))
      (pss_cons (ps_set (i := 2) nd rfl (.inl rfl) (pe_op op_mod (pe_callTy call_int1 (by rfl) mi bt_int (pa_cons (pe_ix ix_list (pv 0) pe_int (fun _ _ => rfl)) pa_nil)) (pv 1)))
        (pss_cons (ps_asg (pe_op op_fdiv (pe_ix ix_list (pv 0) pe_int (fun _ _ => rfl)) (pv 1)) (pg_sub (pv 0) pe_int set_list)) (pss_one (ps_ret (pv 2))))) pss_nil)
    (pss_cons (ps_asg (pe_op op_add (pe_ix ix_list (pv 0) pe_int (fun _ _ => rfl)) pe_int) (pg_sub (pv 0) pe_int set_list))
    (pss_cons (ps_set (i := 3) nd rfl (.inl rfl) (pe_op op_mod (pe_callTy call_int1 (by rfl) mi bt_int (pa_cons (pe_op op_add (pe_ix ix_list (pv 0) pe_int (fun _ _ => rfl)) (pe_op op_mul (pe_ix ix_list (pv 0) pe_int (fun _ _ => rfl)) pe_int)) pa_nil)) pe_int))
    (pss_cons (ps_set (i := 3) nd rfl (.inl rfl) (pe_op op_mod (pe_callTy call_int1 (by rfl) mi bt_int (pa_cons (pe_op op_add (pe_op op_add (pe_op op_mul (pv 3) (pv 3)) (pe_op op_mul (pe_ix ix_list (pv 0) pe_int (fun _ _ => rfl)) pe_int)) pe_int) pa_nil)) pe_int))
    (pss_one (ps_ret (pe_op op_mod (pe_callTy call_int1 (by rfl) mi bt_int (pa_cons (pe_op op_fdiv (pe_op op_mod (pe_callTy call_int1 (by rfl) mi bt_int (pa_cons (pe_op op_add (pe_op op_mul (pv 3) (pv 3)) (pe_ix ix_list (pv 0) pe_int (fun _ _ => rfl))) pa_nil)) pe_int) pe_int) pa_nil)) (pv 1)))))))
theorem sc__law_pick : FnScope ["pool", "things"] ["pool", "things"] (defScope s__law_pick) := ⟨rfl, rfl, rfl, by decide +kernel, rfl, by decide +kernel, by decide +kernel⟩
theorem cal__law_pick {f : Addr} {fd : FuncData} (h : DefAt K mg "_law_pick" s__law_pick ["pool", "things"] f fd) (z : Zs mg) (c__law_draw : Cal P w K mg base 1 "_law_draw" [false, false] .sh S_draw) : Cal P w K mg base 2 "_law_pick" [false, false] .sh S_pick :=
  cal_of h sc__law_pick [false, false] .sh S_pick b_pick rfl (fun cdv A outer s H E hr => (sxs_one (sx_ret (ex_ix (ev_var 1) (ex_calC c__law_draw (ea_bo (ev_var 0) (ea_bo (ef_callB c_len z.len bt_len (ea_bo (ev_var 1) ea_nil)).ev ea_nil))).ev).er))) vc_pick
theorem sc__law_word : FnScope ["pool", "taken", "signs", "barred", "word", "k"] ["pool", "taken"] (defScope s__law_word) := ⟨rfl, rfl, rfl, by decide +kernel, rfl, by decide +kernel, by decide +kernel⟩
theorem cal__law_word {f : Addr} {fd : FuncData} (h : DefAt K mg "_law_word" s__law_word ["pool", "taken"] f fd) (z : Zs mg) (c__law_draw : Cal P w K mg base 1 "_law_draw" [false, false] .sh S_draw) : Cal P w K mg base 2 "_law_word" [false, false] .sh S__law_word :=
  cal_of h sc__law_word [false, false] .sh S__law_word b__law_word rfl (fun cdv A outer s H E hr => (sxs_cons (sx_set 2 (ex_str [97, 98, 99, 100, 101, 102, 103, 104, 105, 106, 107, 108, 109, 110, 111, 112, 113, 114, 115, 116, 117, 118, 119, 120, 121, 122, 48, 49, 50, 51, 52, 53, 54, 55, 56, 57]))
  (sxs_cons (sx_set 3 (ef_lst (ea_sh (ex_str [100, 101, 112, 116, 104]) (ea_sh (ex_str [109, 111, 100, 117, 108, 101]) (ea_sh (ex_str [103, 105, 118, 101, 110]) (ea_sh (ex_str [115, 104, 111, 119, 110]) (ea_sh (ex_str [110, 111, 116]) (ea_sh (ex_str [99, 111, 117, 110, 116]) (ea_sh (ex_str [115, 117, 109]) (ea_sh (ex_str [109, 105, 110]) (ea_sh (ex_str [109, 97, 120]) (ea_sh (ex_str [110, 97, 109, 101]) (ea_sh (ex_str [110, 117, 109, 98, 101, 114]) (ea_sh (ex_str [98, 97, 115, 101]) ea_nil))))))))))))).ex)
  (sxs_cons (sx_set 4 (ex_ix (ev_var 2) (ex_calC c__law_draw (ea_bo (ev_var 0) (ea_bo ex_int.ev ea_nil))).ev))
  (sxs_cons (sx_for (ei_range1 (ex_ix (ef_lst (ea_sh ex_int (ea_sh ex_int (ea_sh ex_int (ea_sh ex_int (ea_sh ex_int (ea_sh ex_int (ea_sh ex_int (ea_sh ex_int ea_nil))))))))).ev (ex_calC c__law_draw (ea_bo (ev_var 0) (ea_bo ex_int.ev ea_nil))).ev).ev z.range) (eg_nm 5)
  (sxs_one (sx_set 4 (ef_op op_addD (ev_var 4) (ex_ix (ev_var 2) (ex_calC c__law_draw (ea_bo (ev_var 0) (ea_bo ex_int.ev ea_nil))).ev).ev).ex)))
  (sxs_cons (sx_for (ei_range1 ex_int.ev z.range) (eg_nm 5)
  (sxs_cons (sx_if (ew_and (et_cmp op_ninT (ev_var 4) (ev_var 3)) (ew_and (et_cmp op_neT (ef_slice (ev_var 4) eo_n (eo_s ex_int.ev)).ev (ex_str [110, 101, 118, 101, 114]).ev) (ew_and1 (et_cmp op_ninT (ev_var 4) (ev_var 1))))).et
  (sxs_one sx_break)
  sxs_nil)
  (sxs_one (sx_set 4 (ef_op op_addD (ex_str [119]).ev (ef_callT c_str z.str bt_str (ea_bo (ev_var 5) ea_nil)).ev).ex))))
  (sxs_one (sx_ret (ex_var 4).er)))))))) vc__law_word
theorem sc__law_same : FnScope ["told", "due", "keys", "key", "k", "other"] ["told", "due"] (defScope s__law_same) := ⟨rfl, rfl, rfl, by decide +kernel, rfl, by decide +kernel, by decide +kernel⟩
theorem cal__law_same {f : Addr} {fd : FuncData} (h : DefAt K mg "_law_same" s__law_same ["told", "due"] f fd) (z : Zs mg) : ∀ n, Cal P w K mg base n "_law_same" [false, false] .sh (S_same n)
  | 0 => cal_never h never_same
  | n + 1 => by
    have c__law_same := cal__law_same h z n
    exact cal_of h sc__law_same [false, false] .sh (S_same (n + 1)) (b_same (S_same n)) rfl (fun cdv A outer s H E hr => (sxs_cons (sx_if (ew_or (et_isN (ev_var 1)) (ew_or (et_isB (ev_var 1)) (ew_or1 (et_isB (ev_var 1))))).et
  (sxs_one (sx_ret (ex_or (ex_and (ef_isN (ev_var 0)).ex (ex_one (ef_isN (ev_var 1)).ex)) (ex_or (ex_and (ef_isB (ev_var 0)).ex (ex_one (ef_isB (ev_var 1)).ex)) (ex_one (ex_and (ef_isB (ev_var 0)).ex (ex_one (ef_isB (ev_var 1)).ex))))).er))
  sxs_nil)
  (sxs_cons (sx_if (et_val (ef_isI .int (ev_var 1) z.isinstance z.int bt_int).ev)
  (sxs_one (sx_ret (ex_and (ef_isI .int (ev_var 0) z.isinstance z.int bt_int).ex (ex_and (ex_not (ef_isI .bool (ev_var 0) z.isinstance z.bool bt_bool).ex) (ex_one (ef_cmp op_eqT (ev_var 0) (ev_var 1)).ex))).er))
  sxs_nil)
  (sxs_cons (sx_if (et_val (ef_isI .str (ev_var 1) z.isinstance z.str bt_str).ev)
  (sxs_one (sx_ret (ex_and (ef_isI .str (ev_var 0) z.isinstance z.str bt_str).ex (ex_one (ef_cmp op_eqT (ev_var 0) (ev_var 1)).ex)).er))
  sxs_nil)
  (sxs_cons (sx_if (et_val (ef_isI .dict (ev_var 1) z.isinstance z.dict bt_dict).ev)
  (sxs_cons (sx_if (ew_or (et_not (et_val (ef_isI .dict (ev_var 0) z.isinstance z.dict bt_dict).ev)) (ew_or1 (et_cmp op_neT (ef_callB c_len z.len bt_len (ea_bo (ev_var 0) ea_nil)).ev (ef_callB c_len z.len bt_len (ea_bo (ev_var 1) ea_nil)).ev))).et
  (sxs_one (sx_ret ex_bl.er))
  sxs_nil)
  (sxs_cons (sx_setCK (own := [("key", 3)]) 2 0 (by decide +kernel) (ego_nm 3) epts_nil (ex_var 3))
  (sxs_cons (sx_forKeys 1 (eg_nm 3)
  (sxs_one (sx_if (ew_or (et_cmp op_neT (ef_callB c_len z.len bt_len (ea_bo (ef_comp (own := [("other", 5)]) (fun _ => trivial) (ei_items (ex_var 2)) (by decide +kernel) (ego_nm 5) (epts_one (et_val (ex_calC (hl := Nat.le_refl _) c__law_same (ea_bo (ev_var 5) (ea_bo (ev_var 3) ea_nil))).ev)) (ex_var 5)).ev ea_nil)).ev ex_int.ev) (ew_or1 (et_not (et_val (ex_calC (hl := Nat.le_refl _) c__law_same (ea_bo (ex_ix (ev_var 0) (ev_var 3)).ev (ea_bo (ex_ix (ev_var 1) (ev_var 3)).ev ea_nil))).ev)))).et
  (sxs_one (sx_ret ex_bl.er))
  sxs_nil)))
  (sxs_one (sx_ret ex_bl.er)))))
  sxs_nil)
  (sxs_cons (sx_if (ew_or (et_cmp op_neT (ef_isI .tuple (ev_var 1) z.isinstance z.tuple bt_tuple).ev (ef_isI .tuple (ev_var 0) z.isinstance z.tuple bt_tuple).ev) (ew_or (et_cmp op_neT (ef_isI .list (ev_var 1) z.isinstance z.list bt_list).ev (ef_isI .list (ev_var 0) z.isinstance z.list bt_list).ev) (ew_or1 (et_cmp op_neT (ef_callB c_len z.len bt_len (ea_bo (ev_var 0) ea_nil)).ev (ef_callB c_len z.len bt_len (ea_bo (ev_var 1) ea_nil)).ev)))).et
  (sxs_one (sx_ret ex_bl.er))
  sxs_nil)
  (sxs_cons (sx_for (ei_range1 (ef_callB c_len z.len bt_len (ea_bo (ev_var 1) ea_nil)).ev z.range) (eg_nm 4)
  (sxs_one (sx_if (et_not (et_val (ex_calC (hl := Nat.le_refl _) c__law_same (ea_bo (ex_ix (ev_var 0) (ev_var 4)).ev (ea_bo (ex_ix (ev_var 1) (ev_var 4)).ev ea_nil))).ev))
  (sxs_one (sx_ret ex_bl.er))
  sxs_nil)))
  (sxs_one (sx_ret ex_bl.er))))))))) (vc_same n)
theorem sc__law_drawn_atoms : FnScope ["pool", "taken", "atoms", "k", "name", "terms", "c", "term", "depth"] ["pool"] (defScope s__law_drawn_atoms) := ⟨rfl, rfl, rfl, by decide +kernel, rfl, by decide +kernel, by decide +kernel⟩
theorem cal__law_drawn_atoms {f : Addr} {fd : FuncData} (h : DefAt K mg "_law_drawn_atoms" s__law_drawn_atoms ["pool"] f fd) (z : Zs mg) (c__law_draw : Cal P w K mg base 1 "_law_draw" [false, false] .sh S_draw) (c__law_word : Cal P w K mg base 2 "_law_word" [false, false] .sh S__law_word) : Cal P w K mg base 3 "_law_drawn_atoms" [false] .sh S__law_drawn_atoms :=
  cal_of h sc__law_drawn_atoms [false] .sh S__law_drawn_atoms b__law_drawn_atoms rfl (fun cdv A outer s H E hr => (sxs_cons (sx_own 1 (ef_lst ea_nil))
  (sxs_cons (sx_own 2 (ef_lst ea_nil))
  (sxs_cons (sx_for (ei_range1 (ef_op op_addD ex_int.ev (ex_calC c__law_draw (ea_bo (ev_var 0) (ea_bo ex_int.ev ea_nil))).ev).ev z.range) (eg_nm 3)
  (sxs_cons (sx_append 1 (ex_calC c__law_word (ea_bo (ev_var 0) (ea_bo (ev_var 1) ea_nil))))
  (sxs_cons (sx_set 4 (ex_if (et_cmp op_eqT (ex_calC c__law_draw (ea_bo (ev_var 0) (ea_bo ex_int.ev ea_nil))).ev ex_int.ev) (ex_ix (ev_var 1) ex_int.ev) (ex_ix (ev_var 1) (ef_neg ex_int.ev).ev)))
  (sxs_cons (sx_own 5 (ef_lst ea_nil))
  (sxs_cons (sx_for (ei_range1 (ex_calC c__law_draw (ea_bo (ev_var 0) (ea_bo ex_int.ev ea_nil))).ev z.range) (eg_nm 6)
  (sxs_cons (sx_append 1 (ex_calC c__law_word (ea_bo (ev_var 0) (ea_bo (ev_var 1) ea_nil))))
  (sxs_cons (sx_set 7 (ex_ix (ev_var 1) (ef_neg ex_int.ev).ev))
  (sxs_cons (sx_for (ei_range1 (ex_ix (ef_lst (ea_sh ex_int (ea_sh ex_int (ea_sh ex_int (ea_sh ex_int ea_nil))))).ev (ex_calC c__law_draw (ea_bo (ev_var 0) (ea_bo ex_int.ev ea_nil))).ev).ev z.range) (eg_nm 8)
  (sxs_one (sx_set 7 (ef_op op_addD (ef_op op_addD (ef_op op_addD (ex_ix (ev_var 1) ex_int.ev).ev (ex_str [40]).ev).ev (ev_var 7)).ev (ex_str [41]).ev).ex)))
  (sxs_one (sx_append 5 (ex_if (et_cmp op_eqT (ex_calC c__law_draw (ea_bo (ev_var 0) (ea_bo ex_int.ev ea_nil))).ev ex_int.ev) (ex_calC c__law_draw (ea_bo (ev_var 0) (ea_bo ex_int.ev ea_nil))) (ex_var 7))))))))
  (sxs_one (sx_append 2 (ex_tup (ea_sh (ex_var 4) (ea_sh (ef_callT c_tuple z.tuple bt_tuple (ea_bo (ev_var 5) ea_nil)).ex ea_nil))))))))))
  (sxs_one (sx_frz 2 (sx_ret (ex_var 2).er))))))) vc__law_drawn_atoms
theorem sc__law_drawn_mail : FnScope ["pool", "atoms", "many", "mail", "keys", "k", "first", "key", "act"] ["pool", "atoms", "many"] (defScope s__law_drawn_mail) := ⟨rfl, rfl, rfl, by decide +kernel, rfl, by decide +kernel, by decide +kernel⟩
theorem cal__law_drawn_mail {f : Addr} {fd : FuncData} (h : DefAt K mg "_law_drawn_mail" s__law_drawn_mail ["pool", "atoms", "many"] f fd) (z : Zs mg) (c__law_draw : Cal P w K mg base 1 "_law_draw" [false, false] .sh S_draw) (c__law_pick : Cal P w K mg base 2 "_law_pick" [false, false] .sh S_pick) : Cal P w K mg base 3 "_law_drawn_mail" [false, false, false] .sh S__law_drawn_mail :=
  cal_of h sc__law_drawn_mail [false, false, false] .sh S__law_drawn_mail b__law_drawn_mail rfl (fun cdv A outer s H E hr => (sxs_cons (sx_own 3 (ef_lst ea_nil))
  (sxs_cons (sx_own 4 ef_newT)
  (sxs_cons (sx_for (ei_range1 (ev_var 2) z.range) (eg_nm 5)
  (sxs_cons (sx_set 6 (ex_if (et_cmp op_eqT (ex_calC c__law_draw (ea_bo (ev_var 0) (ea_bo ex_int.ev ea_nil))).ev ex_int.ev) (ex_calC c__law_draw (ea_bo (ev_var 0) (ea_bo ex_int.ev ea_nil))) (ex_calC c__law_draw (ea_bo (ev_var 0) (ea_bo ex_int.ev ea_nil)))))
  (sxs_cons (sx_set 7 (ex_tup (ea_sh (ex_var 6) (ea_sh (ef_op op_addD ex_int.ev (ex_calC c__law_draw (ea_bo (ev_var 0) (ea_bo ex_int.ev ea_nil))).ev).ex (ea_sh (ef_op op_addD ex_int.ev (ex_calC c__law_draw (ea_bo (ev_var 0) (ea_bo ex_int.ev ea_nil))).ev).ex ea_nil)))))
  (sxs_one (sx_if (ew_and (et_cmp op_gtD (ef_callB c_len z.len bt_len (ea_bo (ev_var 3) ea_nil)).ev ex_int.ev) (ew_and1 (et_cmp op_eqT (ex_calC c__law_draw (ea_bo (ev_var 0) (ea_bo ex_int.ev ea_nil))).ev ex_int.ev))).et
  (sxs_one (sx_append 3 (ex_calC c__law_pick (ea_bo (ev_var 0) (ea_bo (ev_var 3) ea_nil)))))
  (sxs_one (sx_if (et_cmp op_ninT (ev_var 7) (ev_var 4))
  (sxs_cons (sx_setIx 4 (ex_var 7) ex_bl)
  (sxs_cons (sx_set 8 (ex_if (et_cmp op_eqT (ex_calC c__law_draw (ea_bo (ev_var 0) (ea_bo ex_int.ev ea_nil))).ev ex_int.ev) (ex_str [116, 97, 107, 101]) (ex_str [116, 101, 108, 108])))
  (sxs_one (sx_append 3 (ef_op op_addD (ev_var 7) (ex_tup (ea_sh (ex_var 8) (ea_sh (ex_calC c__law_pick (ea_bo (ev_var 0) (ea_bo (ev_var 1) ea_nil))) (ea_sh (ex_calC c__law_draw (ea_bo (ev_var 0) (ea_bo ex_int.ev ea_nil))) ea_nil)))).ev).ex))))
  sxs_nil)))))))
  (sxs_one (sx_frz 3 (sx_ret (ex_var 3).er))))))) vc__law_drawn_mail
theorem sc__law_other_mail : FnScope ["pool", "mail", "atoms", "old", "new", "way", "letter"] ["pool", "mail", "atoms"] (defScope s__law_other_mail) := ⟨rfl, rfl, rfl, by decide +kernel, rfl, by decide +kernel, by decide +kernel⟩
theorem cal__law_other_mail {f : Addr} {fd : FuncData} (h : DefAt K mg "_law_other_mail" s__law_other_mail ["pool", "mail", "atoms"] f fd) (z : Zs mg) (c__law_pick : Cal P w K mg base 2 "_law_pick" [false, false] .sh S_pick) (c__law_draw : Cal P w K mg base 1 "_law_draw" [false, false] .sh S_draw) : Cal P w K mg base 3 "_law_other_mail" [false, false, false] .sh S__law_other_mail :=
  cal_of h sc__law_other_mail [false, false, false] .sh S__law_other_mail b__law_other_mail rfl (fun cdv A outer s H E hr => (sxs_cons (sx_if (et_cmp op_eqT (ef_callB c_len z.len bt_len (ea_bo (ev_var 1) ea_nil)).ev ex_int.ev)
  (sxs_one (sx_ret (ef_lst (ea_sh (ex_tup (ea_sh ex_int (ea_sh ex_int (ea_sh ex_int (ea_sh (ex_str [116, 101, 108, 108]) (ea_sh (ex_ix (ev_var 2) ex_int.ev) (ea_sh ex_int ea_nil))))))) ea_nil)).ex.er))
  sxs_nil)
  (sxs_cons (sx_set 3 (ex_calC c__law_pick (ea_bo (ev_var 0) (ea_bo (ev_var 1) ea_nil))))
  (sxs_cons (sx_set 4 (ef_op op_addD (ef_slice (ev_var 3) eo_n (eo_s ex_int.ev)).ev (ex_tup (ea_sh (ex_if (et_cmp op_eqT (ex_ix (ev_var 3) ex_int.ev).ev (ex_str [116, 101, 108, 108]).ev) (ex_str [116, 97, 107, 101]) (ex_str [116, 101, 108, 108])) (ea_sh (ex_ix (ev_var 3) ex_int.ev) (ea_sh (ex_ix (ev_var 3) ex_int.ev) ea_nil)))).ev).ex)
  (sxs_cons (sx_set 5 (ex_calC c__law_draw (ea_bo (ev_var 0) (ea_bo ex_int.ev ea_nil))))
  (sxs_cons (sx_if (et_cmp op_eqT (ev_var 5) ex_int.ev)
  (sxs_one (sx_set 4 (ef_op op_addD (ef_slice (ev_var 3) eo_n (eo_s ex_int.ev)).ev (ex_tup (ea_sh (ef_op op_modD (ef_callT c_int z.int bt_int (ea_bo (ef_op op_addD (ef_op op_addD (ex_ix (ev_var 3) ex_int.ev).ev ex_int.ev).ev (ex_calC c__law_draw (ea_bo (ev_var 0) (ea_bo ex_int.ev ea_nil))).ev).ev ea_nil)).ev ex_int.ev).ex ea_nil)).ev).ex))
  sxs_nil)
  (sxs_cons (sx_if (et_cmp op_eqT (ev_var 5) ex_int.ev)
  (sxs_one (sx_set 4 (ef_op op_addD (ef_slice (ev_var 3) eo_n (eo_s ex_int.ev)).ev (ex_tup (ea_sh (ex_calC c__law_pick (ea_bo (ev_var 0) (ea_bo (ev_var 2) ea_nil))) (ea_sh (ex_ix (ev_var 3) ex_int.ev) ea_nil))).ev).ex))
  sxs_nil)
  (sxs_one (sx_ret (ef_comp (own := [("letter", 6)]) (fun _ => trivial) (ei_bo 1) (by decide +kernel) (ego_nm 6) epts_nil (ex_if (et_cmp op_eqT (ev_var 6) (ev_var 3)) (ex_var 4) (ex_var 6))).ex.er))))))))) vc__law_other_mail
theorem sc__law_asked_pairs : FnScope ["pool", "mail", "uptos", "letter", "manys", "pairs", "upto", "many", "k"] ["pool", "mail"] (defScope s__law_asked_pairs) := ⟨rfl, rfl, rfl, by decide +kernel, rfl, by decide +kernel, by decide +kernel⟩
theorem cal__law_asked_pairs {f : Addr} {fd : FuncData} (h : DefAt K mg "_law_asked_pairs" s__law_asked_pairs ["pool", "mail"] f fd) (z : Zs mg) (c__law_pick : Cal P w K mg base 2 "_law_pick" [false, false] .sh S_pick) : Cal P w K mg base 3 "_law_asked_pairs" [false, false] .sh S__law_asked_pairs :=
  cal_of h sc__law_asked_pairs [false, false] .sh S__law_asked_pairs b__law_asked_pairs rfl (fun cdv A outer s H E hr => (sxs_cons (sx_set 2 (ef_lst (ea_sh ex_int (ea_sh ex_int (ea_sh ex_int (ea_sh (ef_op op_powD ex_int.ev ex_int.ev).ex ea_nil))))).ex)
  (sxs_cons (sx_for (ei_items (ef_slice (ev_var 1) eo_n (eo_s ex_int.ev)).ex) (eg_nm 3)
  (sxs_one (sx_set 2 (ef_op op_addD (ev_var 2) (ef_lst (ea_sh (ex_ix (ev_var 3) ex_int.ev) (ea_sh (ef_op op_addD (ex_ix (ev_var 3) ex_int.ev).ev ex_int.ev).ex (ea_sh (ef_callB c_max2 z.max bt_max (ea_bo ex_int.ev (ea_bo (ef_op op_subD (ex_ix (ev_var 3) ex_int.ev).ev ex_int.ev).ev ea_nil))).ex ea_nil)))).ev).ex)))
  (sxs_cons (sx_set 4 (ef_op op_addD (ef_comp (own := [("many", 7)]) (fun _ => trivial) (ei_range1 (ef_op op_addD (ef_callB c_min2 z.min bt_min (ea_bo (ef_callB c_len z.len bt_len (ea_bo (ev_var 1) ea_nil)).ev (ea_bo ex_int.ev ea_nil))).ev ex_int.ev).ev z.range) (by decide +kernel) (ego_nm 7) epts_nil (ex_var 7)).ev (ef_lst (ea_sh (ef_callB c_len z.len bt_len (ea_bo (ev_var 1) ea_nil)).ex (ea_sh (ef_op op_addD (ef_callB c_len z.len bt_len (ea_bo (ev_var 1) ea_nil)).ev ex_int.ev).ex (ea_sh (ef_op op_powD ex_int.ev ex_int.ev).ex ea_nil)))).ev).ex)
  (sxs_cons (sx_if (et_cmp op_gtD (ef_callB c_len z.len bt_len (ea_bo (ev_var 1) ea_nil)).ev ex_int.ev)
  (sxs_one (sx_ret (ef_comp (own := [("k", 8)]) (fun _ => trivial) (ei_range1 ex_int.ev z.range) (by decide +kernel) (ego_nm 8) epts_nil (ex_tup (ea_sh (ex_calC c__law_pick (ea_bo (ev_var 0) (ea_bo (ev_var 2) ea_nil))) (ea_sh (ex_if (et_cmp op_ltD (ev_var 8) ex_int.ev) (ex_calC c__law_pick (ea_bo (ev_var 0) (ea_bo (ev_var 4) ea_nil))) (ef_callB c_len z.len bt_len (ea_bo (ev_var 1) ea_nil)).ex) ea_nil)))).ex.er))
  sxs_nil)
  (sxs_cons (sx_own 5 (ef_lst (ea_sh (ex_tup (ea_sh ex_int (ea_sh (ef_callB c_len z.len bt_len (ea_bo (ev_var 1) ea_nil)).ex ea_nil))) ea_nil)))
  (sxs_cons (sx_for (ei_items (ex_var 2)) (eg_nm 6)
  (sxs_one (sx_append 5 (ex_tup (ea_sh (ex_var 6) (ea_sh (ex_calC c__law_pick (ea_bo (ev_var 0) (ea_bo (ev_var 4) ea_nil))) ea_nil))))))
  (sxs_cons (sx_for (ei_items (ex_var 4)) (eg_nm 7)
  (sxs_one (sx_append 5 (ex_tup (ea_sh (ex_calC c__law_pick (ea_bo (ev_var 0) (ea_bo (ev_var 2) ea_nil))) (ea_sh (ex_var 7) ea_nil))))))
  (sxs_one (sx_frz 5 (sx_ret (ex_var 5).er))))))))))) vc__law_asked_pairs
theorem sc__law_replayed : FnScope ["mail", "upto", "many", "facts", "letter", "seen"] ["mail", "upto", "many"] (defScope s__law_replayed) := ⟨rfl, rfl, rfl, by decide +kernel, rfl, by decide +kernel, by decide +kernel⟩
theorem cal__law_replayed {f : Addr} {fd : FuncData} (h : DefAt K mg "_law_replayed" s__law_replayed ["mail", "upto", "many"] f fd) (z : Zs mg) : Cal P w K mg base 1 "_law_replayed" [false, false, false] .sh S__law_replayed :=
  cal_of h sc__law_replayed [false, false, false] .sh S__law_replayed b__law_replayed rfl (fun cdv A outer s H E hr => (sxs_cons (sx_own 3 ef_newT)
  (sxs_cons (sx_for (ei_items (ef_sortL z.sorted (ef_comp (own := [("seen", 5)]) (fun _ => trivial) (ei_items (ef_slice (ev_var 0) eo_n (eo_s (ev_var 2))).ex) (by decide +kernel) (ego_nm 5) (epts_one (et_cmp op_leD (ex_ix (ev_var 5) ex_int.ev).ev (ev_var 1))) (ex_var 5)).ev).ex) (eg_nm 4)
  (sxs_one (sx_if (et_cmp op_eqT (ex_ix (ev_var 4) ex_int.ev).ev (ex_str [116, 101, 108, 108]).ev)
  (sxs_one (sx_setIx 3 (ex_ix (ev_var 4) ex_int.ev) (ex_ix (ev_var 4) ex_int.ev)))
  (sxs_one (sx_if (et_cmp op_inT (ex_ix (ev_var 4) ex_int.ev).ev (ev_var 3))
  (sxs_one (sx_popT 3 (ex_ix (ev_var 4) ex_int.ev)))
  sxs_nil)))))
  (sxs_one (sx_frz 3 (sx_ret (ex_var 3).er)))))) vc__law_replayed
theorem sc_law : FnScope ["script", "pool", "atoms", "size", "mail", "other", "pairs", "pair", "due", "due_other", "sent", "told", "told_other"] ["script"] (defScope s_law) := ⟨rfl, rfl, rfl, by decide +kernel, rfl, by decide +kernel, by decide +kernel⟩
theorem fn_law {f : Addr} {fd : FuncData} (h : DefAt K mg "law" s_law ["script"] f fd) (z : Zs mg) (c__law_pool : Cal P w K mg base 1 "_law_pool" [false, false] .sh S_pool) (c__law_drawn_atoms : Cal P w K mg base 3 "_law_drawn_atoms" [false] .sh S__law_drawn_atoms) (c__law_drawn_mail : Cal P w K mg base 3 "_law_drawn_mail" [false, false, false] .sh S__law_drawn_mail) (c__law_other_mail : Cal P w K mg base 3 "_law_other_mail" [false, false, false] .sh S__law_other_mail) (c__law_asked_pairs : Cal P w K mg base 3 "_law_asked_pairs" [false, false] .sh S__law_asked_pairs) (c__law_draw : Cal P w K mg base 1 "_law_draw" [false, false] .sh S_draw) (c__law_replayed : Cal P w K mg base 1 "_law_replayed" [false, false, false] .sh S__law_replayed) (c_facts_at : Cal P w K mg base 1 "facts_at" [false, false, false] .fr S_facts_at) (c__law_same : Cal P w K mg base 8 "_law_same" [false, false] .sh (S_same 8)) : FnOk P w K mg base CX0 9 f fd ["script"] (SpD K [false] .sh S_law) :=
  def_ok h.fn sc_law [false] .sh S_law b_law rfl (fun cdv A outer s H E hr => (sxs_cons (sx_set 1 (ex_calC c__law_pool (ea_bo (ev_var 0) (ea_bo ex_int.ev ea_nil))))
  (sxs_cons (sx_set 2 (ex_calC c__law_drawn_atoms (ea_bo (ex_calC c__law_pool (ea_bo (ev_var 0) (ea_bo ex_int.ev ea_nil))).ev ea_nil)))
  (sxs_cons (sx_set 3 (ex_if (et_cmp op_eqT (ex_calC c__law_draw (ea_bo (ev_var 1) (ea_bo ex_int.ev ea_nil))).ev ex_int.ev) (ef_op op_addD ex_int.ev (ex_calC c__law_draw (ea_bo (ev_var 1) (ea_bo ex_int.ev ea_nil))).ev).ex (ex_calC c__law_draw (ea_bo (ev_var 1) (ea_bo ex_int.ev ea_nil)))))
  (sxs_cons (sx_set 4 (ex_calC c__law_drawn_mail (ea_bo (ev_var 1) (ea_bo (ev_var 2) (ea_bo (ev_var 3) ea_nil)))))
  (sxs_cons (sx_set 5 (ex_calC c__law_other_mail (ea_bo (ex_calC c__law_pool (ea_bo (ev_var 0) (ea_bo ex_int.ev ea_nil))).ev (ea_bo (ev_var 4) (ea_bo (ev_var 2) ea_nil)))))
  (sxs_cons (sx_set 6 (ex_calC c__law_asked_pairs (ea_bo (ex_calC c__law_pool (ea_bo (ev_var 0) (ea_bo ex_int.ev ea_nil))).ev (ea_bo (ev_var 4) ea_nil))))
  (sxs_cons (sx_for (ei_items (ef_op op_addD (ev_var 6) (ef_slice (ev_var 6) eo_n (eo_s ex_int.ev)).ev).ex) (eg_nm 7)
  (sxs_cons (sx_set 8 (ex_calC c__law_replayed (ea_bo (ev_var 4) (ea_bo (ex_ix (ev_var 7) ex_int.ev).ev (ea_bo (ex_ix (ev_var 7) ex_int.ev).ev ea_nil)))))
  (sxs_cons (sx_set 9 (ex_calC c__law_replayed (ea_bo (ev_var 5) (ea_bo (ex_ix (ev_var 7) ex_int.ev).ev (ea_bo (ex_ix (ev_var 7) ex_int.ev).ev ea_nil)))))
  (sxs_cons (sx_own 10 (ef_callT c_list z.list bt_list (ea_bo (ev_var 4) ea_nil)))
  (sxs_cons (sx_own 11 (ef_calC c_facts_at (ea_bo (ev_var 10) (ea_bo (ex_ix (ev_var 7) ex_int.ev).ev (ea_bo (ex_ix (ev_var 7) ex_int.ev).ev ea_nil)))))
  (sxs_cons (sx_if (ew_or (et_cmp op_neT (ef_callB c_len z.len bt_len (ea_bo (ev_var 10) ea_nil)).ev (ef_callB c_len z.len bt_len (ea_bo (ev_var 4) ea_nil)).ev) (ew_or1 (ew_and (et_cmp op_eqT (ev_var 7) (ex_ix (ev_var 6) ex_int.ev).ev) (ew_and1 (et_not (et_val (ex_calC c__law_same (ea_bo (ev_var 10) (ea_bo (ev_var 4) ea_nil))).ev)))).et)).et
  (sxs_one (sx_ret ex_bl.er))
  sxs_nil)
  (sxs_cons (sx_clear 10)
  (sxs_cons (sx_own 12 (ef_calC c_facts_at (ea_bo (ef_callT c_list z.list bt_list (ea_bo (ev_var 5) ea_nil)).ev (ea_bo (ex_ix (ev_var 7) ex_int.ev).ev (ea_bo (ex_ix (ev_var 7) ex_int.ev).ev ea_nil)))))
  (sxs_cons (sx_if (ew_or (et_not (et_val (ex_calC c__law_same (ea_bo (ev_var 11) (ea_bo (ev_var 8) ea_nil))).ev)) (ew_or1 (et_not (et_val (ex_calC c__law_same (ea_bo (ev_var 12) (ea_bo (ev_var 9) ea_nil))).ev)))).et
  (sxs_one (sx_ret ex_bl.er))
  sxs_nil)
  (sxs_cons (sx_setIx 11 (ex_tup (ea_sh (ex_str [115, 112, 111, 105, 108, 116]) (ea_sh (ex_tup ea_nil) ea_nil))) ex_int)
  (sxs_one (sx_clearT 12))))))))))))
  (sxs_one (sx_ret ex_bl.er)))))))))) vc_law
end
theorem all_mk {l : PySem.W.OpenLaw} {w : World} {K : PySem.W.Frag} {h : Heap} {mg : Str → Option Value} {fa : Addr} (X : K.In h) (G : h.Ns mainGlobals mg) (hfa : mg "law" = some (.ref fa))
    {oc0 kV0 dc0 pm0 cd0 ct0 : Value} {od0 an0 : Option Addr} {sl0 : Array (Option Value)} {f0 : Addr}
    (a0 : PySem.W.nsIn K mainGlobals "facts_at" = some (some (.ref f0))) (l0 : K.lookup f0 = some ⟨oc0, od0, .func (PySem.W.fnOf "facts_at" "facts_at" (defArgs s_facts_at) (defBody s_facts_at) (defScope s_facts_at) .none kV0 dc0 pm0 an0 cd0 ct0), sl0⟩) (d0 : PySem.W.codeIn K cd0 "facts_at" = true) (k0 : PySem.W.keepIn K (.ref f0) = true)
    {oc1 kV1 dc1 pm1 cd1 ct1 : Value} {od1 an1 : Option Addr} {sl1 : Array (Option Value)} {f1 : Addr}
    (a1 : PySem.W.nsIn K mainGlobals "_law_pool" = some (some (.ref f1))) (l1 : K.lookup f1 = some ⟨oc1, od1, .func (PySem.W.fnOf "_law_pool" "_law_pool" (defArgs s__law_pool) (defBody s__law_pool) (defScope s__law_pool) .none kV1 dc1 pm1 an1 cd1 ct1), sl1⟩) (d1 : PySem.W.codeIn K cd1 "_law_pool" = true) (k1 : PySem.W.keepIn K (.ref f1) = true)
    {oc2 kV2 dc2 pm2 cd2 ct2 : Value} {od2 an2 : Option Addr} {sl2 : Array (Option Value)} {f2 : Addr}
    (a2 : PySem.W.nsIn K mainGlobals "_law_draw" = some (some (.ref f2))) (l2 : K.lookup f2 = some ⟨oc2, od2, .func (PySem.W.fnOf "_law_draw" "_law_draw" (defArgs s__law_draw) (defBody s__law_draw) (defScope s__law_draw) .none kV2 dc2 pm2 an2 cd2 ct2), sl2⟩) (d2 : PySem.W.codeIn K cd2 "_law_draw" = true) (k2 : PySem.W.keepIn K (.ref f2) = true)
    {oc3 kV3 dc3 pm3 cd3 ct3 : Value} {od3 an3 : Option Addr} {sl3 : Array (Option Value)} {f3 : Addr}
    (a3 : PySem.W.nsIn K mainGlobals "_law_pick" = some (some (.ref f3))) (l3 : K.lookup f3 = some ⟨oc3, od3, .func (PySem.W.fnOf "_law_pick" "_law_pick" (defArgs s__law_pick) (defBody s__law_pick) (defScope s__law_pick) .none kV3 dc3 pm3 an3 cd3 ct3), sl3⟩) (d3 : PySem.W.codeIn K cd3 "_law_pick" = true) (k3 : PySem.W.keepIn K (.ref f3) = true)
    {oc4 kV4 dc4 pm4 cd4 ct4 : Value} {od4 an4 : Option Addr} {sl4 : Array (Option Value)} {f4 : Addr}
    (a4 : PySem.W.nsIn K mainGlobals "_law_word" = some (some (.ref f4))) (l4 : K.lookup f4 = some ⟨oc4, od4, .func (PySem.W.fnOf "_law_word" "_law_word" (defArgs s__law_word) (defBody s__law_word) (defScope s__law_word) .none kV4 dc4 pm4 an4 cd4 ct4), sl4⟩) (d4 : PySem.W.codeIn K cd4 "_law_word" = true) (k4 : PySem.W.keepIn K (.ref f4) = true)
    {oc5 kV5 dc5 pm5 cd5 ct5 : Value} {od5 an5 : Option Addr} {sl5 : Array (Option Value)} {f5 : Addr}
    (a5 : PySem.W.nsIn K mainGlobals "_law_same" = some (some (.ref f5))) (l5 : K.lookup f5 = some ⟨oc5, od5, .func (PySem.W.fnOf "_law_same" "_law_same" (defArgs s__law_same) (defBody s__law_same) (defScope s__law_same) .none kV5 dc5 pm5 an5 cd5 ct5), sl5⟩) (d5 : PySem.W.codeIn K cd5 "_law_same" = true) (k5 : PySem.W.keepIn K (.ref f5) = true)
    {oc6 kV6 dc6 pm6 cd6 ct6 : Value} {od6 an6 : Option Addr} {sl6 : Array (Option Value)} {f6 : Addr}
    (a6 : PySem.W.nsIn K mainGlobals "_law_drawn_atoms" = some (some (.ref f6))) (l6 : K.lookup f6 = some ⟨oc6, od6, .func (PySem.W.fnOf "_law_drawn_atoms" "_law_drawn_atoms" (defArgs s__law_drawn_atoms) (defBody s__law_drawn_atoms) (defScope s__law_drawn_atoms) .none kV6 dc6 pm6 an6 cd6 ct6), sl6⟩) (d6 : PySem.W.codeIn K cd6 "_law_drawn_atoms" = true) (k6 : PySem.W.keepIn K (.ref f6) = true)
    {oc7 kV7 dc7 pm7 cd7 ct7 : Value} {od7 an7 : Option Addr} {sl7 : Array (Option Value)} {f7 : Addr}
    (a7 : PySem.W.nsIn K mainGlobals "_law_drawn_mail" = some (some (.ref f7))) (l7 : K.lookup f7 = some ⟨oc7, od7, .func (PySem.W.fnOf "_law_drawn_mail" "_law_drawn_mail" (defArgs s__law_drawn_mail) (defBody s__law_drawn_mail) (defScope s__law_drawn_mail) .none kV7 dc7 pm7 an7 cd7 ct7), sl7⟩) (d7 : PySem.W.codeIn K cd7 "_law_drawn_mail" = true) (k7 : PySem.W.keepIn K (.ref f7) = true)
    {oc8 kV8 dc8 pm8 cd8 ct8 : Value} {od8 an8 : Option Addr} {sl8 : Array (Option Value)} {f8 : Addr}
    (a8 : PySem.W.nsIn K mainGlobals "_law_other_mail" = some (some (.ref f8))) (l8 : K.lookup f8 = some ⟨oc8, od8, .func (PySem.W.fnOf "_law_other_mail" "_law_other_mail" (defArgs s__law_other_mail) (defBody s__law_other_mail) (defScope s__law_other_mail) .none kV8 dc8 pm8 an8 cd8 ct8), sl8⟩) (d8 : PySem.W.codeIn K cd8 "_law_other_mail" = true) (k8 : PySem.W.keepIn K (.ref f8) = true)
    {oc9 kV9 dc9 pm9 cd9 ct9 : Value} {od9 an9 : Option Addr} {sl9 : Array (Option Value)} {f9 : Addr}
    (a9 : PySem.W.nsIn K mainGlobals "_law_asked_pairs" = some (some (.ref f9))) (l9 : K.lookup f9 = some ⟨oc9, od9, .func (PySem.W.fnOf "_law_asked_pairs" "_law_asked_pairs" (defArgs s__law_asked_pairs) (defBody s__law_asked_pairs) (defScope s__law_asked_pairs) .none kV9 dc9 pm9 an9 cd9 ct9), sl9⟩) (d9 : PySem.W.codeIn K cd9 "_law_asked_pairs" = true) (k9 : PySem.W.keepIn K (.ref f9) = true)
    {oc10 kV10 dc10 pm10 cd10 ct10 : Value} {od10 an10 : Option Addr} {sl10 : Array (Option Value)} {f10 : Addr}
    (a10 : PySem.W.nsIn K mainGlobals "_law_replayed" = some (some (.ref f10))) (l10 : K.lookup f10 = some ⟨oc10, od10, .func (PySem.W.fnOf "_law_replayed" "_law_replayed" (defArgs s__law_replayed) (defBody s__law_replayed) (defScope s__law_replayed) .none kV10 dc10 pm10 an10 cd10 ct10), sl10⟩) (d10 : PySem.W.codeIn K cd10 "_law_replayed" = true) (k10 : PySem.W.keepIn K (.ref f10) = true)
    {oc11 kV11 dc11 pm11 cd11 ct11 : Value} {od11 an11 : Option Addr} {sl11 : Array (Option Value)} {f11 : Addr}
    (a11 : PySem.W.nsIn K mainGlobals "law" = some (some (.ref f11))) (l11 : K.lookup f11 = some ⟨oc11, od11, .func (PySem.W.fnOf "law" "law" (defArgs s_law) (defBody s_law) (defScope s_law) .none kV11 dc11 pm11 an11 cd11 ct11), sl11⟩) (d11 : PySem.W.codeIn K cd11 "law" = true) (k11 : PySem.W.keepIn K (.ref f11) = true)
    (zabs : PySem.W.nsIn K mainGlobals "abs" = some none) (zbool : PySem.W.nsIn K mainGlobals "bool" = some none) (zdict : PySem.W.nsIn K mainGlobals "dict" = some none) (zint : PySem.W.nsIn K mainGlobals "int" = some none) (zisinstance : PySem.W.nsIn K mainGlobals "isinstance" = some none) (zlen : PySem.W.nsIn K mainGlobals "len" = some none) (zlist : PySem.W.nsIn K mainGlobals "list" = some none) (zmax : PySem.W.nsIn K mainGlobals "max" = some none) (zmin : PySem.W.nsIn K mainGlobals "min" = some none) (zrange : PySem.W.nsIn K mainGlobals "range" = some none) (zsorted : PySem.W.nsIn K mainGlobals "sorted" = some none) (zstr : PySem.W.nsIn K mainGlobals "str" = some none) (ztuple : PySem.W.nsIn K mainGlobals "tuple" = some none) :
    ∃ fd : FuncData, (∀ (s : Shared) (v : Value), BindsTo s fd ⟨[v], []⟩ [("script", v)]) ∧ ∀ base : Heap, K.In base → base.Ns mainGlobals mg → FnOk l.prog w K mg base CX0 9 fa fd ["script"] (spLaw K) := by
  letI : WW := ⟨w⟩
  haveI : Lk w := ⟨rfl⟩
  have e := hfa.symm.trans (PySem.W.mg_of X G a11)
  cases e
  have F0 : DefAt K mg "facts_at" s_facts_at ["letters", "day", "count"] f0 _ := ⟨fun_mk (st := s_facts_at) l0 d0 k0, PySem.W.mg_of X G a0, (fun_mk (st := s_facts_at) l0 d0 k0).binds (ps := ["letters", "day", "count"]) fun _ _ _ _ _ _ us hl => match us, hl with | [_, _, _], _ => rfl⟩
  have F1 : DefAt K mg "_law_pool" s__law_pool ["script", "at"] f1 _ := ⟨fun_mk (st := s__law_pool) l1 d1 k1, PySem.W.mg_of X G a1, (fun_mk (st := s__law_pool) l1 d1 k1).binds (ps := ["script", "at"]) fun _ _ _ _ _ _ us hl => match us, hl with | [_, _], _ => rfl⟩
  have F2 : DefAt K mg "_law_draw" s__law_draw ["pool", "many"] f2 _ := ⟨fun_mk (st := s__law_draw) l2 d2 k2, PySem.W.mg_of X G a2, (fun_mk (st := s__law_draw) l2 d2 k2).binds (ps := ["pool", "many"]) fun _ _ _ _ _ _ us hl => match us, hl with | [_, _], _ => rfl⟩
  have F3 : DefAt K mg "_law_pick" s__law_pick ["pool", "things"] f3 _ := ⟨fun_mk (st := s__law_pick) l3 d3 k3, PySem.W.mg_of X G a3, (fun_mk (st := s__law_pick) l3 d3 k3).binds (ps := ["pool", "things"]) fun _ _ _ _ _ _ us hl => match us, hl with | [_, _], _ => rfl⟩
  have F4 : DefAt K mg "_law_word" s__law_word ["pool", "taken"] f4 _ := ⟨fun_mk (st := s__law_word) l4 d4 k4, PySem.W.mg_of X G a4, (fun_mk (st := s__law_word) l4 d4 k4).binds (ps := ["pool", "taken"]) fun _ _ _ _ _ _ us hl => match us, hl with | [_, _], _ => rfl⟩
  have F5 : DefAt K mg "_law_same" s__law_same ["told", "due"] f5 _ := ⟨fun_mk (st := s__law_same) l5 d5 k5, PySem.W.mg_of X G a5, (fun_mk (st := s__law_same) l5 d5 k5).binds (ps := ["told", "due"]) fun _ _ _ _ _ _ us hl => match us, hl with | [_, _], _ => rfl⟩
  have F6 : DefAt K mg "_law_drawn_atoms" s__law_drawn_atoms ["pool"] f6 _ := ⟨fun_mk (st := s__law_drawn_atoms) l6 d6 k6, PySem.W.mg_of X G a6, (fun_mk (st := s__law_drawn_atoms) l6 d6 k6).binds (ps := ["pool"]) fun _ _ _ _ _ _ us hl => match us, hl with | [_], _ => rfl⟩
  have F7 : DefAt K mg "_law_drawn_mail" s__law_drawn_mail ["pool", "atoms", "many"] f7 _ := ⟨fun_mk (st := s__law_drawn_mail) l7 d7 k7, PySem.W.mg_of X G a7, (fun_mk (st := s__law_drawn_mail) l7 d7 k7).binds (ps := ["pool", "atoms", "many"]) fun _ _ _ _ _ _ us hl => match us, hl with | [_, _, _], _ => rfl⟩
  have F8 : DefAt K mg "_law_other_mail" s__law_other_mail ["pool", "mail", "atoms"] f8 _ := ⟨fun_mk (st := s__law_other_mail) l8 d8 k8, PySem.W.mg_of X G a8, (fun_mk (st := s__law_other_mail) l8 d8 k8).binds (ps := ["pool", "mail", "atoms"]) fun _ _ _ _ _ _ us hl => match us, hl with | [_, _, _], _ => rfl⟩
  have F9 : DefAt K mg "_law_asked_pairs" s__law_asked_pairs ["pool", "mail"] f9 _ := ⟨fun_mk (st := s__law_asked_pairs) l9 d9 k9, PySem.W.mg_of X G a9, (fun_mk (st := s__law_asked_pairs) l9 d9 k9).binds (ps := ["pool", "mail"]) fun _ _ _ _ _ _ us hl => match us, hl with | [_, _], _ => rfl⟩
  have F10 : DefAt K mg "_law_replayed" s__law_replayed ["mail", "upto", "many"] f10 _ := ⟨fun_mk (st := s__law_replayed) l10 d10 k10, PySem.W.mg_of X G a10, (fun_mk (st := s__law_replayed) l10 d10 k10).binds (ps := ["mail", "upto", "many"]) fun _ _ _ _ _ _ us hl => match us, hl with | [_, _, _], _ => rfl⟩
  have F11 : DefAt K mg "law" s_law ["script"] fa _ := ⟨fun_mk (st := s_law) l11 d11 k11, PySem.W.mg_of X G a11, (fun_mk (st := s_law) l11 d11 k11).binds (ps := ["script"]) fun _ _ _ _ _ _ us hl => match us, hl with | [_], _ => rfl⟩
  have z : Zs mg := ⟨PySem.W.mg_none_of X G zabs, PySem.W.mg_none_of X G zbool, PySem.W.mg_none_of X G zdict, PySem.W.mg_none_of X G zint, PySem.W.mg_none_of X G zisinstance, PySem.W.mg_none_of X G zlen, PySem.W.mg_none_of X G zlist, PySem.W.mg_none_of X G zmax, PySem.W.mg_none_of X G zmin, PySem.W.mg_none_of X G zrange, PySem.W.mg_none_of X G zsorted, PySem.W.mg_none_of X G zstr, PySem.W.mg_none_of X G ztuple⟩
  refine ⟨PySem.W.fnOf "law" "law" (defArgs s_law) (defBody s_law) (defScope s_law) .none kV11 dc11 pm11 an11 cd11 ct11, fun s v => .of_eq rfl, fun base _ _ => ?_⟩
  have c__law_pool := cal__law_pool (P := l.prog) (w := w) (base := base) F1 z
  have c__law_draw := cal__law_draw (P := l.prog) (w := w) (base := base) F2 z
  have c__law_word := cal__law_word (P := l.prog) (w := w) (base := base) F4 z c__law_draw
  have c__law_drawn_atoms := cal__law_drawn_atoms (P := l.prog) (w := w) (base := base) F6 z c__law_draw c__law_word
  have c__law_pick := cal__law_pick (P := l.prog) (w := w) (base := base) F3 z c__law_draw
  have c__law_drawn_mail := cal__law_drawn_mail (P := l.prog) (w := w) (base := base) F7 z c__law_draw c__law_pick
  have c__law_other_mail := cal__law_other_mail (P := l.prog) (w := w) (base := base) F8 z c__law_pick c__law_draw
  have c__law_asked_pairs := cal__law_asked_pairs (P := l.prog) (w := w) (base := base) F9 z c__law_pick
  have c__law_replayed := cal__law_replayed (P := l.prog) (w := w) (base := base) F10 z
  have c_facts_at := cal_facts_at (P := l.prog) (w := w) (base := base) F0 z
  have c__law_same := cal__law_same (P := l.prog) (w := w) (base := base) F5 z 8
  exact (fn_law (P := l.prog) (w := w) (base := base) F11 z c__law_pool c__law_drawn_atoms c__law_drawn_mail c__law_other_mail c__law_asked_pairs c__law_draw c__law_replayed c_facts_at c__law_same).imp (law_sp (.inr rfl))
end K83
open PySem PySem.W PyProof.Rows
set_option maxHeartbeats 0 in
theorem PySem.Challenge.cw_rulemill_k83_facts_at_a_day_holds : PySem.Challenge.rw_rulemill_k83_facts_at_a_day.Holds := by
  w_on; o_law; k_head; (case hw => w_witness2)
  k_fill
  refine L2.walk_of (l := PySem.Challenge.rw_rulemill_k83_facts_at_a_day) (n := 63) (k := 9) (x := "script") (CX := fun _ => L2.CX0) (sp := fun w => DL.spLaw _) rfl (by decide) rfl ⟨rfl, by decide, by decide⟩ (fun w h Y => PySem.W.kIn_of Y) ?F (fun _ _ a ns hl _ hS => ⟨a, ns, rfl, hS, hl, fun _ => rfl⟩) (fun _ _ _ _ _ h => h)
  case F =>
    intro w mg fa h KX G hmg
    refine' K83.all_mk KX G hmg ?a0 ?l0 ?d0 ?k0 ?a1 ?l1 ?d1 ?k1 ?a2 ?l2 ?d2 ?k2 ?a3 ?l3 ?d3 ?k3 ?a4 ?l4 ?d4 ?k4 ?a5 ?l5 ?d5 ?k5 ?a6 ?l6 ?d6 ?k6 ?a7 ?l7 ?d7 ?k7 ?a8 ?l8 ?d8 ?k8 ?a9 ?l9 ?d9 ?k9 ?a10 ?l10 ?d10 ?k10 ?a11 ?l11 ?d11 ?k11 ?zabs ?zbool ?zdict ?zint ?zisinstance ?zlen ?zlist ?zmax ?zmin ?zrange ?zsorted ?zstr ?ztuple
    (case a0 => k_is); (case l0 => k_is); (case d0 => k_is); (case k0 => k_is); (case a1 => k_is); (case l1 => k_is); (case d1 => k_is); (case k1 => k_is); (case a2 => k_is); (case l2 => k_is); (case d2 => k_is); (case k2 => k_is)
    (case a3 => k_is); (case l3 => k_is); (case d3 => k_is); (case k3 => k_is); (case a4 => k_is); (case l4 => k_is); (case d4 => k_is); (case k4 => k_is); (case a5 => k_is); (case l5 => k_is); (case d5 => k_is); (case k5 => k_is)
    (case a6 => k_is); (case l6 => k_is); (case d6 => k_is); (case k6 => k_is); (case a7 => k_is); (case l7 => k_is); (case d7 => k_is); (case k7 => k_is); (case a8 => k_is); (case l8 => k_is); (case d8 => k_is); (case k8 => k_is)
    (case a9 => k_is); (case l9 => k_is); (case d9 => k_is); (case k9 => k_is); (case a10 => k_is); (case l10 => k_is); (case d10 => k_is); (case k10 => k_is); (case a11 => k_is); (case l11 => k_is); (case d11 => k_is); (case k11 => k_is)
    (case zabs => k_is); (case zbool => k_is); (case zdict => k_is); (case zint => k_is); (case zisinstance => k_is); (case zlen => k_is); (case zlist => k_is); (case zmax => k_is); (case zmin => k_is); (case zrange => k_is); (case zsorted => k_is); (case zstr => k_is)
    (case ztuple => k_is)
