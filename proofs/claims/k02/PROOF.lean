import PyProof.Rows.All
import Wide.All
import OpenK.AllK
import Wide.FinOn
import HandS.ForMost
import HandS.Exc
import HandS.WordsExc
import HandS.ExcOwn
import HandS.Style
import HandS.IsInst
import HandS.TupAny
import HandS.TupMul
import HandS.CallLocal
import HandS.Deep
import HandS.Wide
import HandS.NoneIn
import KE.KeyNested
import KE.KDictKeyed
import HandS.RaiseMore
import KE.SortData
import KE.GoesMore
import KE.GoesZip
import KE.GoesEnum
import KE.SortKeyHeap
import HandS.DictTup
import HandS.Iter
import HandS.SortKw
import HandS.Defaults
import KE.KSortKey
import HandS.DictComp
import HandS.ExcValue
import HandS.Text
import HandS.ExcIs
import HandS.HotCalls
import HandS.SetFor
import HandS.Small
import HandS.HeadHook1
import HandS.Ends
import HandS.Head0
import HandS.Head1
import HandS.Head2
import HandS.HeadEnd
import HandS.HeadHook2
import PyProof.TableCode
import KE.KStateDown
import Lean
import HandS.More
import HandS.Words
import PySem.Challenge.RW_sortspec_k02_spec_errors
set_option linter.all false
/-! The small language: values, memory, evaluator. Plain Lean. -/
namespace G

/-- values without identity: tuples, lists that nobody changes any more, dicts that nobody changes any more -/
inductive D where
  | non | bl (b : Bool) | int (i : Int) | str (z : List Nat)
  | tup (ds : List D)
  /-- a tuple of the module's top -/
  | ktup (ds : List D)
  | lst (ds : List D)
  /-- the script -/
  | frz (ds : List D)
  /-- a dict with tuples as keys -/
  | dct (ks vs : List D)
  /-- a dict with None, ints, texts as keys -/
  | dcf (ks vs : List D)
  | fn (i : Nat)
  deriving Inhabited

/-- what a name holds: a value, a thing in the memory, the f-th list of a thing -/
inductive W where
  | d (x : D) | r (l : Nat) | rf (l f : Nat)
  deriving Inhabited

/-- what may change -/
inductive O where
  | lst (ds : List D)
  | dct (kvs : List (D × D))
  /-- a list of lists of its own -/
  | lsts (dss : List (List D))
  /-- an instance: new; with its spec; with its spec and its own list of rows -/
  | ins0
  | ins1 (sp : D)
  | ins (sp : D) (ds : List D)
  | dead
  deriving Inhabited

abbrev Mem := List O
abbrev Sl := List (Option W)

inductive R (α : Type) where
  | ok (a : α) (M : Mem) | exc (c : Nat) (M : Mem) | bad

def R.bind {α β : Type} (r : R α) (f : α → Mem → R β) : R β := match r with
  | .ok a M => f a M
  | .exc c M => .exc c M
  | .bad => .bad
@[simp] theorem bind_ok {α β : Type} (a : α) (M : Mem) (f : α → Mem → R β) : (R.ok a M).bind f = f a M := (rfl)
@[simp] theorem bind_exc {α β : Type} (c : Nat) (M : Mem) (f : α → Mem → R β) : (R.exc c M : R α).bind f = .exc c M := (rfl)
@[simp] theorem bind_bad {α β : Type} (f : α → Mem → R β) : (R.bad : R α).bind f = .bad := (rfl)

/-- a list within a thing -/
def getI (M : Mem) (l f : Nat) : Option (List D) := match M[l]? with
  | some (.ins _ ds) => if f = 0 then some ds else none
  | some (.lsts dss) => dss[f]?
  | _ => none
def setI (M : Mem) (l f : Nat) (ds : List D) : Mem := match M[l]? with
  | some (.ins sp _) => M.set l (.ins sp ds)
  | some (.lsts dss) => M.set l (.lsts (dss.set f ds))
  | _ => M
/-- the value that a name's thing shows now -/
def asD (M : Mem) : W → Option D
  | .d x => some x
  | .r l => match M[l]? with
    | some (.lst ds) => some (.lst ds)
    | some (.dct kvs) => some (.dct (kvs.map (·.1)) (kvs.map (·.2)))
    | _ => none
  | .rf l f => match getI M l f with
    | some ds => some (.lst ds)
    | none => none

@[simp] theorem asD_d (M : Mem) (x : D) : asD M (.d x) = some x := (rfl)
/-! ### equality, order -/
mutual
def D.eqv : D → D → Bool
  | .non, .non => true
  | .bl a, .bl b => a == b
  | .bl a, .int b => (if a then 1 else 0) == b
  | .int a, .bl b => a == (if b then 1 else 0)
  | .int a, .int b => a == b
  | .str a, .str b => a == b
  | .tup a, .tup b => D.eqvs a b
  | .tup a, .ktup b => D.eqvs a b
  | .ktup a, .tup b => D.eqvs a b
  | .ktup a, .ktup b => D.eqvs a b
  | .lst a, .lst b => D.eqvs a b
  | .lst a, .frz b => D.eqvs a b
  | .frz a, .lst b => D.eqvs a b
  | .frz a, .frz b => D.eqvs a b
  | _, _ => false
def D.eqvs : List D → List D → Bool
  | [], [] => true
  | x :: xs, y :: ys => D.eqv x y && D.eqvs xs ys
  | _, _ => false
end

mutual
/-- the very same -/
def D.same : D → D → Bool
  | .non, .non => true
  | .bl a, .bl b => a == b
  | .int a, .int b => a == b
  | .str a, .str b => a == b
  | .tup a, .tup b => D.sames a b
  | .ktup a, .ktup b => D.sames a b
  | .lst a, .lst b => D.sames a b
  | .frz a, .frz b => D.sames a b
  | .dct a b, .dct c d => D.sames a c && D.sames b d
  | .dcf a b, .dcf c d => D.sames a c && D.sames b d
  | .fn a, .fn b => a == b
  | _, _ => false
def D.sames : List D → List D → Bool
  | [], [] => true
  | x :: xs, y :: ys => D.same x y && D.sames xs ys
  | _, _ => false
end
mutual
theorem D.same_eq : ∀ {a b : D}, D.same a b = true → a = b
  | .non, b, h => by cases b <;> simp_all [D.same]
  | .bl _, b, h => by cases b <;> simp_all [D.same]
  | .int _, b, h => by cases b <;> simp_all [D.same]
  | .str _, b, h => by cases b <;> simp_all [D.same]
  | .fn _, b, h => by cases b <;> simp_all [D.same]
  | .tup xs, b, h => by cases b <;> simp only [D.same, Bool.false_eq_true] at h; rw [D.sames_eq h]
  | .ktup xs, b, h => by cases b <;> simp only [D.same, Bool.false_eq_true] at h; rw [D.sames_eq h]
  | .lst xs, b, h => by cases b <;> simp only [D.same, Bool.false_eq_true] at h; rw [D.sames_eq h]
  | .frz xs, b, h => by cases b <;> simp only [D.same, Bool.false_eq_true] at h; rw [D.sames_eq h]
  | .dct x y, b, h => by cases b <;> simp only [D.same, Bool.false_eq_true, Bool.and_eq_true] at h; rw [D.sames_eq h.1, D.sames_eq h.2]
  | .dcf x y, b, h => by cases b <;> simp only [D.same, Bool.false_eq_true, Bool.and_eq_true] at h; rw [D.sames_eq h.1, D.sames_eq h.2]
theorem D.sames_eq : ∀ {a b : List D}, D.sames a b = true → a = b
  | [], [], _ => rfl
  | [], _ :: _, h => by simp [D.sames] at h
  | _ :: _, [], h => by simp [D.sames] at h
  | x :: xs, y :: ys, h => by
    simp only [D.sames, Bool.and_eq_true] at h
    rw [D.same_eq h.1, D.sames_eq h.2]
end
mutual
theorem D.same_refl : ∀ a : D, D.same a a = true
  | .non => by simp [D.same]
  | .bl _ => by simp [D.same]
  | .int _ => by simp [D.same]
  | .str _ => by simp [D.same]
  | .fn _ => by simp [D.same]
  | .tup xs => by simp [D.same, D.sames_refl xs]
  | .ktup xs => by simp [D.same, D.sames_refl xs]
  | .lst xs => by simp [D.same, D.sames_refl xs]
  | .frz xs => by simp [D.same, D.sames_refl xs]
  | .dct x y => by simp [D.same, D.sames_refl x, D.sames_refl y]
  | .dcf x y => by simp [D.same, D.sames_refl x, D.sames_refl y]
theorem D.sames_refl : ∀ a : List D, D.sames a a = true
  | [] => by simp [D.sames]
  | x :: xs => by simp [D.sames, D.same_refl x, D.sames_refl xs]
end
/-- data: what == takes, to a depth -/
def D.okd : Nat → D → Bool
  | _, .non => true
  | _, .bl _ => true
  | _, .int _ => true
  | _, .str z => z.all fun c => decide (c < 1114112)
  | n + 1, .tup ds => ds.all (D.okd n)
  | n + 1, .ktup ds => ds.all (D.okd n)
  | n + 1, .lst ds => ds.all (D.okd n)
  | n + 1, .frz ds => ds.all (D.okd n)
  | _, _ => false
def D.dat (d : D) : Bool := D.okd 50 d

/-- the order of texts, by codes -/
def ltS : List Nat → List Nat → Bool
  | [], [] => false
  | [], _ :: _ => true
  | _ :: _, [] => false
  | x :: xs, y :: ys => if x = y then ltS xs ys else decide (x < y)

/-- the place that an index of any sign means -/
def ix (n : Nat) (i : Int) : Option Nat := if 0 ≤ i then (if i < n then some i.toNat else none) else if -(n : Int) ≤ i then some (i + n).toNat else none
def at_ {α : Type} (xs : List α) (i : Int) : Option α := (ix xs.length i).bind fun j => xs[j]?

def D.flat : D → Bool
  | .non => true | .bl _ => true | .int _ => true | .str _ => true
  | _ => false

/-- a dict's key that is equal -/
def look (k : D) : List (D × D) → Option D
  | [] => none
  | (a, b) :: r => if D.eqv a k then some b else look k r
/-- d[k] = v -/
def putD (k v : D) : List (D × D) → List (D × D)
  | [] => [(k, v)]
  | (a, b) :: r => if D.eqv a k then (a, v) :: r else (a, b) :: putD k v r
/-- what may be a key, to a depth -/
def D.keyd : Nat → D → Bool
  | _, .non => true
  | _, .int _ => true
  | _, .str _ => true
  | n + 1, .tup ds => ds.all (D.keyd n)
  | _, _ => false
def D.key : D → Bool
  | .tup ds => ds.all (D.keyd 5)
  | _ => false
def D.fkey : D → Bool
  | .non => true
  | .int _ => true
  | .str _ => true
  | _ => false
/-- the value of a key -/
def lookD (k : D) : List D → List D → Option D
  | a :: ks, b :: vs => if D.eqv a k then some b else lookD k ks vs
  | _, _ => none

inductive Op where
  | add | sub | mul | fdiv | mod | pow
  | eq | ne | lt | le | gt | ge | is_ | isnot | in_ | notin
  | ix
  deriving DecidableEq

def line : Nat := 1000000

def b2i (b : Bool) : Int := if b then 1 else 0

def addD : D → D → Option D
  | .int a, .int b => some (.int (a + b))
  | .str a, .str b => if a.length + b.length ≤ line then some (.str (a ++ b)) else none
  | .tup a, .tup b => if a.length + b.length ≤ line then some (.tup (a ++ b)) else none
  | .lst a, .lst b => if a.length + b.length ≤ line then some (.lst (a ++ b)) else none
  | _, _ => none
def subD : D → D → Option D
  | .int a, .int b => some (.int (a - b))
  | .bl a, .bl b => some (.int (b2i a - b2i b))
  | _, _ => none
def mulD : D → D → Option D
  | .int a, .int b => if (-(2 ^ 64) < a ∧ a < 2 ^ 64) ∨ (-(2 ^ 64) < b ∧ b < 2 ^ 64) ∨ (a.natAbs < 2 ^ 2000 ∧ b.natAbs < 2 ^ 2000) then some (.int (a * b)) else none
  | .lst a, .int k => if -1000 ≤ k ∧ k ≤ 1000 ∧ a.length ≤ 1000 then some (.lst (List.replicate k.toNat a).flatten) else none
  | .str z, .int k => if -1000 ≤ k ∧ k ≤ 1000 ∧ z.length ≤ 1000 then some (.str (List.replicate k.toNat z).flatten) else none
  | .tup a, .int k => if 0 ≤ k ∧ k ≤ 1000 ∧ a.length ≤ 1000 ∧ a.isEmpty = false then some (.tup (List.replicate k.toNat a).flatten) else none
  | _, _ => none
def fdivD : D → D → Option D
  | .int a, .int b => if 0 < b ∧ b < 1073741824 then some (.int (a / b)) else none
  | _, _ => none
def modD : D → D → Option D
  | .int a, .int b => if 0 < b then some (.int (a % b)) else none
  | _, _ => none
def powD : D → D → Option D
  | .int a, .int b => if 0 ≤ b ∧ b ≤ 1000 ∧ a.natAbs < 2 ^ 64 then some (.int (a ^ b.toNat)) else none
  | _, _ => none
def eqD (a b : D) : Option D := if a.dat && b.dat then some (.bl (D.eqv a b)) else none
def neD (a b : D) : Option D := if a.dat && b.dat then some (.bl (!D.eqv a b)) else none
def ltD : D → D → Option D
  | .int a, .int b => some (.bl (decide (a < b)))
  | .str a, .str b => some (.bl (ltS a b))
  | _, _ => none
def leD : D → D → Option D
  | .int a, .int b => some (.bl (decide (a ≤ b)))
  | _, _ => none
def gtD : D → D → Option D
  | .int a, .int b => some (.bl (decide (b < a)))
  | .str a, .str b => some (.bl (ltS b a))
  | _, _ => none
def geD : D → D → Option D
  | .int a, .int b => some (.bl (decide (b ≤ a)))
  | _, _ => none
def D.isNon : D → Bool
  | .non => true
  | _ => false
def isD : D → D → Option D
  | a, .non => some (.bl a.isNon)
  | .bl a, .bl b => some (.bl (a == b))
  | _, _ => none
def inD : D → D → Option Bool
  | .str [c], .str b => some (b.contains c)
  | a, .tup ds => if a.flat && ds.all D.flat then some (ds.any fun x => D.eqv x a) else none
  | a, .ktup ds => if a.flat && ds.all D.flat then some (ds.any fun x => D.eqv x a) else none
  | a, .lst ds => if a.dat && ds.all D.dat then some (ds.any fun x => D.eqv x a) else none
  | k, .dct ks _ => if k.key then some (ks.any fun a => D.eqv a k) else none
  | _, _ => none
def ixD : D → D → Option D
  | .tup ds, .int i => at_ ds i
  | .lst ds, .int i => at_ ds i
  | .frz ds, .int i => at_ ds i
  | .str z, .int i => if z.length ≤ line then (at_ z i).map fun c => .str [c] else none
  | .dct ks vs, k => if k.key then lookD k ks vs else none
  | .dcf ks vs, k => if k.fkey then lookD k ks vs else none
  | _, _ => none
def opD : Op → D → D → Option D
  | .add => addD | .sub => subD | .mul => mulD | .fdiv => fdivD | .mod => modD | .pow => powD
  | .eq => eqD | .ne => neD | .lt => ltD | .le => leD | .gt => gtD | .ge => geD
  | .is_ => isD
  | .isnot => fun a b => (isD a b).map fun | .bl c => .bl (!c) | x => x
  | .in_ => fun a b => (inD a b).map .bl
  | .notin => fun a b => (inD a b).map fun c => .bl (!c)
  | .ix => ixD

/-! ### built-ins by values -/
inductive Bi where
  | len | isInt | isBool | isStr | isTup | isList | str | int | all | tuple | sum | max2 | neg | indexTrue | join | countTrue | cat | joinW (z : List Nat) | splitW (z : List Nat) | reprT
  deriving DecidableEq

/-- the decimal digits -/
def digitsAux : Nat → Nat → List Nat → List Nat
  | 0, _, acc => acc
  | f + 1, n, acc => if n < 10 then (n + 48) :: acc else digitsAux f (n / 10) ((n % 10 + 48) :: acc)
def digits (n : Nat) : List Nat := digitsAux (n + 1) n []

def boolsOf : List D → Option (List Bool)
  | [] => some []
  | .bl b :: r => (boolsOf r).map (b :: ·)
  | _ => none
def intsOf : List D → Option (List Int)
  | [] => some []
  | .int b :: r => (intsOf r).map (b :: ·)
  | _ => none
def strsOf : List D → Option (List (List Nat))
  | [] => some []
  | .str b :: r => (strsOf r).map (b :: ·)
  | _ => none

def joinS (sep : List Nat) : List (List Nat) → List Nat
  | [] => []
  | [x] => x
  | x :: y :: r => x ++ (sep ++ joinS sep (y :: r))

def isSome' : D → Bool
  | .fn _ => false | .ktup _ => false | .frz _ => false | .dct _ _ => false | .dcf _ _ => false
  | _ => true

def D.isInt : D → Bool | .int _ => true | .bl _ => true | _ => false
def D.isBool : D → Bool | .bl _ => true | _ => false
def D.isStr : D → Bool | .str _ => true | _ => false
def D.isTup : D → Bool | .tup _ => true | _ => false
def D.isList : D → Bool | .lst _ => true | _ => false
/-- a text split at a sign -/
def splitC (c : Nat) : List Nat → List (List Nat)
  | [] => [[]]
  | x :: a => if x = c then [] :: splitC c a else match splitC c a with
    | p :: r => (x :: p) :: r
    | [] => [[x]]
def joinOk (s : List Nat) (zs : List (List Nat)) : Bool := decide ((zs.map List.length).sum + zs.length * s.length ≤ 100000)
/-- lists in a list -/
def lstsOf : List D → Option (List (List D))
  | [] => some []
  | .lst ys :: xs => (lstsOf xs).map (ys :: ·)
  | _ => none
/-- a value's text, for repr -/
def reprV : D → Option (List Nat)
  | .non => some [78, 111, 110, 101]
  | .int i => if 0 ≤ i ∧ i < 10 ^ 10 then some (digits i.toNat) else none
  | .str z => if z.all fun c => decide (97 ≤ c ∧ c ≤ 122) then some (39 :: (z ++ [39])) else none
  | _ => none
def biD : Bi → List D → Option D
  | .reprT, [.tup [x]] => (reprV x).map fun z => .str (40 :: (z ++ [44, 41]))
  | .joinW s, [.lst ds] => (strsOf ds).bind fun zs => if joinOk s zs then some (.str (joinS s zs)) else none
  | .joinW s, [.tup ds] => (strsOf ds).bind fun zs => if joinOk s zs then some (.str (joinS s zs)) else none
  | .splitW s, [.str a] => (match s with
    | [c] => if c < 256 ∧ a.length ≤ 100000 then some (.lst ((splitC c a).map .str)) else none
    | _ => none)
  | .int, [.str s] => (match s with
    | [c] => if 48 ≤ c ∧ c ≤ 57 then some (.int ((c : Int) - 48)) else none
    | _ => none)
  | .cat, [.lst ds] => (lstsOf ds).bind fun yss => if yss.flatten.length ≤ line then some (.lst yss.flatten) else none
  | .len, [.str z] => if z.length ≤ line then some (.int z.length) else none
  | .len, [.tup ds] => some (.int ds.length)
  | .len, [.lst ds] => some (.int ds.length)
  | .len, [.frz ds] => some (.int ds.length)
  | .isInt, [x] => if isSome' x then some (.bl x.isInt) else none
  | .isBool, [x] => if isSome' x then some (.bl x.isBool) else none
  | .isStr, [x] => if isSome' x then some (.bl x.isStr) else none
  | .isTup, [x] => if isSome' x then some (.bl x.isTup) else none
  | .isList, [x] => if isSome' x then some (.bl x.isList) else none
  | .str, [.int i] => if 0 ≤ i ∧ i < 10 ^ 10 then some (.str (digits i.toNat)) else none
  | .str, [.str z] => some (.str z)
  | .all, [.lst ds] => (boolsOf ds).map fun bs => .bl (bs.all id)
  | .tuple, [.lst ds] => some (.tup ds)
  | .tuple, [.tup ds] => some (.tup ds)
  | .sum, [.lst ds] => (intsOf ds).map fun ns => .int ns.sum
  | .max2, [.int a, .int b] => some (.int (if b > a then b else a))
  | .neg, [.int a] => some (.int (-a))
  | .join, [.str s, .lst ds] => (strsOf ds).bind fun zs => if (joinS s zs).length ≤ line then some (.str (joinS s zs)) else none
  | .join, [.str s, .tup ds] => (strsOf ds).bind fun zs => if (joinS s zs).length ≤ line then some (.str (joinS s zs)) else none
  | .indexTrue, [.lst ds] => (boolsOf ds).bind fun bs => if bs.any id then some (.int (bs.findIdx id)) else none
  | .countTrue, [.lst ds] => (boolsOf ds).map fun bs => .int (bs.filter id).length
  | _, _ => none

/-- insertion, for sorted -/
def insS (x : List Nat) : List (List Nat) → List (List Nat)
  | [] => [x]
  | y :: r => if ltS y x then y :: insS x r else x :: y :: r
def sortS : List (List Nat) → List (List Nat)
  | [] => []
  | x :: r => insS x (sortS r)

def insI (x : Int) : List Int → List Int
  | [] => [x]
  | y :: r => if y < x then y :: insI x r else x :: y :: r
def sortI : List Int → List Int
  | [] => []
  | x :: r => insI x (sortI r)
/-- sorted by the first part -/
def fstI : D → Int
  | .tup (.int i :: _) => i
  | _ => 0
def isFst : D → Bool
  | .tup (.int _ :: _) => true
  | _ => false
def sortK (ds : List D) : List D := ds.mergeSort fun a b => decide (fstI a ≤ fstI b)
def sortKD : D → Option D
  | .lst ds => if ds.all isFst && decide (ds.length ≤ line) then some (.lst (sortK ds)) else none
  | _ => none

/-- (int, tuple of ints) -/
def isIT : D → Bool
  | .tup [.int _, .tup ds] => (intsOf ds).isSome
  | _ => false
def itOf : D → Int × List Int
  | .tup [.int i, .tup ds] => (i, (intsOf ds).getD [])
  | _ => (0, [])
def ltIT (a b : D) : Bool := decide ((itOf a).1 < (itOf b).1 ∨ ((itOf a).1 = (itOf b).1 ∧ (itOf a).2 < (itOf b).2))
def sortT (ds : List D) : List D := ds.mergeSort fun a b => !ltIT b a
def sortedD : D → Option D
  | .lst ds => (match intsOf ds with
    | some ns => if ns.length < 64 then some (.lst ((sortI ns).map .int)) else none
    | none => (match strsOf ds with
      | some zs => if zs.length < 64 then some (.lst ((sortS zs).map .str)) else none
      | none => if ds.all isIT && decide (ds.length ≤ line) then some (.lst (sortT ds)) else none))
  | .tup ds => (strsOf ds).bind fun zs => if zs.length < 64 then some (.lst ((sortS zs).map .str)) else none
  | _ => none

/-- a slice's bound as a place among n (d where it is left out) -/
def sIx (n d : Nat) : Option Int → Nat
  | none => d
  | some v => if v < 0 then (v + (n : Int)).toNat else min v.toNat n
def cut {α : Type} (xs : List α) (lo hi : Option Int) : List α := (xs.drop (sIx xs.length 0 lo)).take (sIx xs.length xs.length hi - sIx xs.length 0 lo)

def cutD (lo hi : Option Int) : D → Option D
  | .tup ds => some (.tup (cut ds lo hi))
  | .lst ds => some (.lst (cut ds lo hi))
  | .str z => if z.length ≤ line then some (.str (cut z lo hi)) else none
  | _ => none
def revD : D → Option D
  | .tup ds => some (.tup ds.reverse)
  | .lst ds => some (.lst ds.reverse)
  | _ => none

/-! ### the language -/
inductive Tg where
  | nm (i : Nat) | tup (ts : List Tg)

inductive Mt where
  | append | extend | insert | popAt | remove | index | count
  deriving DecidableEq

mutual
inductive Ex where
  | c (x : D)
  | v (i : Nat)
  /-- a module's name -/
  | g (nm : Nat) (x : D)
  | tup (es : List Ex)
  /-- mu: 0 a list as a value, 1 one that may change, 2 a list of lists -/
  | lst (mu : Nat) (es : List Ex)
  | dnew
  | op (o : Op) (a b : Ex)
  | chain (o o' : Op) (a b c : Ex)
  | not (a : Ex)
  | and (es : List Ex)
  | or (es : List Ex)
  | ife (c a b : Ex)
  | bi (b : Bi) (es : List Ex)
  | un (b : Bi) (a : Ex)
  | call (f : Nat) (es : List Ex)
  | calll (i : Nat) (es : List Ex)
  | slice (a : Ex) (lo hi : Option Ex)
  | rev (a : Ex)
  | sorted (a : Ex)
  /-- sorted(a, key=f), f(x) is x[0] -/
  | sortedK (f : Nat) (a : Ex)
  /-- {k: v for t in it} -/
  | dcomp (t : Tg) (it : It) (k v : Ex)
  | listof (mu : Nat) (a : Ex)
  | rep (mu : Nat) (a b : Ex)
  | comp (mu : Nat) (t : Tg) (it : It) (cond : Option Ex) (elt : Ex)
  | comp2 (t : Tg) (it : It) (t2 : Tg) (it2 : It) (elt : Ex)
  | meth (m : Mt) (a : Ex) (es : List Ex)
  /-- a[b], a a list of lists that may change -/
  | inn (a b : Ex)
  /-- a != [], a a list of lists that may change -/
  | nnil (a : Ex)
  /-- a.append(e), a a list of lists, e a new list -/
  | appN (a e : Ex)
  /-- C(e): f makes it -/
  | make (f : Nat) (e : Ex)
  /-- a.spec, a.rows -/
  | fsp (a : Ex)
  | frw (a : Ex)
  /-- a.m(es) -/
  | mcall (f : Nat) (a : Ex) (es : List Ex)
  /-- a.index(b) -/
  | idx (a b : Ex)
  /-- e(es), e an expression that gives a def -/
  | callx (e : Ex) (es : List Ex)
  /-- len(a), a an instance: f is its __len__ -/
  | mlen (f : Nat) (a : Ex)
inductive It where
  | seq (a : Ex)
  | range1 (a : Ex)
  | range2 (a b : Ex)
  | zip (a b : Ex)
  | enum (a : Ex)
  | items (a : Ex)
end

inductive Sm where
  | asg (t : Tg) (e : Ex)
  | par (is : List Nat) (es : List Ex)
  | aug (i : Nat) (o : Op) (e : Ex)
  | set (a i e : Ex)
  | augix (a i : Ex) (o : Op) (e : Ex)
  | ex (e : Ex)
  | iff (c : Ex) (a b : List Sm)
  | for_ (t : Tg) (it : It) (body : List Sm)
  | whl (c : Ex) (body : List Sm)
  | ret (e : Ex)
  | retF (i : Nat)
  | rse (c : Nat)
  | fz (i : Nat)
  /-- a.spec = e -/
  | setSp (a e : Ex)
  /-- i.rows = e, e a new list -/
  | setRw (i : Nat) (e : Ex)
  /-- the whole body of C: a new instance, then __init__ -/
  | mkS (g : Nat)
  /-- try: b, except SortError as ..: return _law_which(..), for the classes xs -/
  | tryW (xs : List Nat) (b : List Sm)

/-! ### targets -/
def Sl.put (σ : Sl) (i : Nat) (w : W) : Sl := σ.set i (some w)
mutual
def bindT : Tg → D → Sl → Option Sl
  | .nm i, x, σ => some (σ.put i (.d x))
  | .tup ts, .tup ds, σ => bindTs ts ds σ
  | .tup _, _, _ => none
def bindTs : List Tg → List D → Sl → Option Sl
  | [], [], σ => some σ
  | t :: ts, x :: xs, σ => (bindT t x σ).bind fun σ' => bindTs ts xs σ'
  | _, _, _ => none
end
mutual
def Tg.vars : Tg → List Nat
  | .nm i => [i]
  | .tup ts => Tg.varss ts
def Tg.varss : List Tg → List Nat
  | [] => []
  | t :: ts => Tg.vars t ++ Tg.varss ts
end
def wipe (σ : Sl) : List Nat → Sl
  | [] => σ
  | v :: vs => (wipe σ vs).set v none

/-- the items that a source shows -/
def itemsD : D → Option (List D)
  | .tup ds => some ds
  | .ktup ds => some ds
  | .lst ds => some ds
  | .frz ds => some ds
  | .str z => some (z.map fun c => .str [c])
  | _ => none
/-- .. of a list, a tuple -/
def sitems : D → Option (List D)
  | .tup ds => some ds
  | .ktup ds => some ds
  | .lst ds => some ds
  | _ => none
def W.isD : W → Bool
  | .d _ => true
  | _ => false

/-- a source in the memory is as it was -/
def still (w : W) (x : D) (M : Mem) : Bool := w.isD || (match asD M w with
  | some y => D.same y x
  | none => false)

def mkL (mu : Nat) (ds : List D) (M : Mem) : R W := match mu with
  | 0 => .ok (.d (.lst ds)) M
  | 1 => .ok (.r M.length) (M ++ [.lst ds])
  | 2 => (match ds with
    | [] => .ok (.r M.length) (M ++ [.lsts []])
    | _ => .bad)
  | _ => .bad

def ofO {α β : Type} (o : Option α) (f : α → R β) : R β := match o with
  | some a => f a
  | none => .bad

/-- the loop of a comprehension -/
def compLoop (chk : Mem → Bool) (bind : D → Option Sl) (cond : Sl → Mem → R W) (elt : Sl → Mem → R W) : List D → Mem → R (List D)
  | [], M => if chk M then .ok [] M else .bad
  | x :: xs, M => if chk M then
      match bind x with
      | none => .bad
      | some σ => match cond σ M with
        | .ok (.d (.bl true)) M1 => (match elt σ M1 with
          | .ok (.d y) M2 => (match compLoop chk bind cond elt xs M2 with
            | .ok ys M3 => .ok (y :: ys) M3
            | _ => .bad)
          | _ => .bad)
        | .ok (.d (.bl false)) M1 => compLoop chk bind cond elt xs M1
        | _ => .bad
    else .bad
def compAll (chk : Mem → Bool) (bind : D → Option Sl) (cond : Sl → Mem → R W) (elt : Sl → Mem → R W) (xs : List D) (M : Mem) : R (List D) :=
  if xs.length ≤ line then compLoop chk bind cond elt xs M else .bad
/-- the loop of a dict's comprehension -/
def dcLoop (chk : Mem → Bool) (bind : D → Option Sl) (key val : Sl → Mem → R W) : List D → List (D × D) → Mem → R (List (D × D))
  | [], acc, M => if chk M then .ok acc M else .bad
  | x :: xs, acc, M => if chk M then
      match bind x with
      | none => .bad
      | some σ => match key σ M with
        | .ok (.d k) M1 => (match val σ M1 with
          | .ok (.d v) M2 => if k.fkey && decide (acc.length < line) then dcLoop chk bind key val xs (putD k v acc) M2 else .bad
          | _ => .bad)
        | _ => .bad
    else .bad
/-- .. of one with two clauses -/
def flatLoop (chk : Mem → Bool) (bind : D → Option Sl) (it : Sl → Mem → R (List D × (Mem → Bool))) (bind2 : Sl → D → Option Sl) (elt : Sl → Mem → R W) : List D → Mem → R (List D)
  | [], M => if chk M then .ok [] M else .bad
  | x :: xs, M => if chk M then
      match bind x with
      | none => .bad
      | some σ1 => match it σ1 M with
        | .ok p M1 => (match compLoop p.2 (bind2 σ1) (fun _ M => .ok (.d (.bl true)) M) elt p.1 M1 with
          | .ok ys M2 => (match flatLoop chk bind it bind2 elt xs M2 with
            | .ok zs M3 => .ok (ys ++ zs) M3
            | _ => .bad)
          | _ => .bad)
        | _ => .bad
    else .bad
def flatAll (chk : Mem → Bool) (bind : D → Option Sl) (it : Sl → Mem → R (List D × (Mem → Bool))) (bind2 : Sl → D → Option Sl) (elt : Sl → Mem → R W) (xs : List D) (M : Mem) : R (List D) :=
  match flatLoop chk bind it bind2 elt xs M with
  | .ok ds M1 => if ds.length ≤ line then .ok ds M1 else .bad
  | _ => .bad

/-- a list that may change -/
def lstW (w : W) (M : Mem) : Bool := match asD M w with
  | some (.lst _) => true
  | _ => false

/-- methods that change a list -/
def appendW (w : W) (ws : List W) (M : Mem) : R W := match w, ws with
  | .r l, [.d x] => (match M[l]? with
    | some (.lst ds) => if ds.length < line then .ok (.d .non) (M.set l (.lst (ds ++ [x]))) else .bad
    | _ => .bad)
  | .rf l f, [.d x] => (match getI M l f with
    | some ds => if ds.length < line then .ok (.d .non) (setI M l f (ds ++ [x])) else .bad
    | none => .bad)
  | _, _ => .bad
def extendW (w : W) (ws : List W) (M : Mem) : R W := match w, ws with
  | .r l, [.d (.lst xs)] => (match M[l]? with
    | some (.lst ds) => if ds.length + xs.length ≤ line then .ok (.d .non) (M.set l (.lst (ds ++ xs))) else .bad
    | _ => .bad)
  | _, _ => .bad
def popW (w : W) (ws : List W) (M : Mem) : R W := match w, ws with
  | .r l, [.d (.int i)] => (match M[l]? with
    | some (.lst ds) => if ds.length ≤ line then (match ix ds.length i with
      | some j => (match ds[j]? with
        | some x => .ok (.d x) (M.set l (.lst (ds.eraseIdx j)))
        | none => .bad)
      | none => .bad) else .bad
    | _ => .bad)
  | .rf l f, [.d (.int i)] => (match getI M l f with
    | some ds => if ds.length ≤ line then (match ix ds.length i with
      | some j => (match ds[j]? with
        | some x => .ok (.d x) (setI M l f (ds.eraseIdx j))
        | none => .bad)
      | none => .bad) else .bad
    | none => .bad)
  | _, _ => .bad
def insertW (w : W) (ws : List W) (M : Mem) : R W := match w, ws with
  | .r l, [.d (.int i), .d x] => (match M[l]? with
    | some (.lst ds) => if 0 ≤ i ∧ i ≤ ds.length ∧ ds.length < line then .ok (.d .non) (M.set l (.lst (ds.take i.toNat ++ x :: ds.drop i.toNat))) else .bad
    | _ => .bad)
  | .rf l f, [.d (.int i), .d x] => (match getI M l f with
    | some ds => if 0 ≤ i ∧ i ≤ ds.length ∧ ds.length < line then .ok (.d .non) (setI M l f (ds.take i.toNat ++ x :: ds.drop i.toNat)) else .bad
    | none => .bad)
  | _, _ => .bad
def removeW (w : W) (ws : List W) (M : Mem) : R W := match w, ws with
  | .r l, [.d x] => (match M[l]? with
    | some (.lst ds) => if (x.dat && (ds.all D.dat && ds.any fun y => D.eqv y x)) && decide (ds.length ≤ line) then .ok (.d .non) (M.set l (.lst (ds.eraseIdx (ds.findIdx fun y => D.eqv y x)))) else .bad
    | _ => .bad)
  | _, _ => .bad
def methW (m : Mt) (w : W) (ws : List W) (M : Mem) : R W := match m with
  | .remove => removeW w ws M
  | .insert => insertW w ws M
  | .append => appendW w ws M
  | .extend => extendW w ws M
  | .popAt => popW w ws M
  | _ => .bad

/-! lists of lists, instances -/
def innW (M : Mem) : W → W → R W
  | .r l, .d (.int k) => (match M[l]? with
    | some (.lsts dss) => (match ix dss.length k with
      | some j => .ok (.rf l j) M
      | none => .bad)
    | _ => .bad)
  | _, _ => .bad
def nnilW (M : Mem) : W → R W
  | .r l => (match M[l]? with
    | some (.lsts dss) => if D.dat (.lst (dss.map .lst)) then .ok (.d (.bl (!dss.isEmpty))) M else .bad
    | _ => .bad)
  | _ => .bad
def lssW (M : Mem) : W → Bool
  | .r l => (match M[l]? with
    | some (.lsts _) => true
    | _ => false)
  | _ => false
/-- the new list is the last thing -/
def newL (n : Nat) (M : Mem) : W → Option (List D)
  | .r l => if n ≤ l ∧ l + 1 = M.length then (match M[l]? with
    | some (.lst ds) => some ds
    | _ => none) else none
  | _ => none
def appNW (n : Nat) (M : Mem) (w w' : W) : R W := match w, newL n M w' with
  | .r l, some ds => (match M[l]? with
    | some (.lsts dss) => if dss.length < line then .ok (.d .non) ((M.take (M.length - 1)).set l (.lsts (dss ++ [ds]))) else .bad
    | _ => .bad)
  | _, _ => .bad
def insW (M : Mem) : W → Bool
  | .r l => (match M[l]? with
    | some .ins0 => true
    | some (.ins1 _) => true
    | some (.ins _ _) => true
    | _ => false)
  | _ => false
def fspW (M : Mem) : W → R W
  | .r l => (match M[l]? with
    | some (.ins1 sp) => .ok (.d sp) M
    | some (.ins sp _) => .ok (.d sp) M
    | _ => .bad)
  | _ => .bad
def frwW (M : Mem) : W → R W
  | .r l => (match M[l]? with
    | some (.ins _ _) => .ok (.rf l 0) M
    | _ => .bad)
  | _ => .bad
def setSpW (x : D) (M : Mem) : W → Option Mem
  | .r l => (match M[l]? with
    | some .ins0 => some (M.set l (.ins1 x))
    | _ => none)
  | _ => none
def setRwW (n : Nat) (M : Mem) (w w' : W) : Option (W × Mem) := match w, newL n M w' with
  | .r l, some ds => (match M[l]? with
    | some (.ins1 sp) => some (.r l, (M.take (M.length - 1)).set l (.ins sp ds))
    | some (.ins sp _) => some (.r (M.length - 1), (M.set l .dead).set (M.length - 1) (.ins sp ds))
    | _ => none)
  | _, _ => none
/-- a.index(b) -/
def idxD : D → D → Option D
  | .lst ds, x => if x.dat && (ds.all D.dat && ds.any fun y => D.eqv y x) then some (.int (ds.findIdx fun y => D.eqv y x)) else none
  | _, _ => none

section
variable (Γ : Nat → List W → Mem → R W)
mutual
def evE : Ex → Sl → Mem → R W
  | .c x, _, M => .ok (.d x) M
  | .v i, σ, M => match σ[i]? with
    | some (some w) => .ok w M
    | _ => .bad
  | .g _ x, _, M => .ok (.d x) M
  | .tup es, σ, M => (evDs es σ M).bind fun ds M => .ok (.d (.tup ds)) M
  | .lst mu es, σ, M => (evDs es σ M).bind fun ds M => mkL mu ds M
  | .dnew, _, M => .ok (.r M.length) (M ++ [.dct []])
  | .op o a b, σ, M => (evE a σ M).bind fun w M => (evE b σ M).bind fun w' M => ofO (asD M w) fun x => ofO (asD M w') fun y => ofO (opD o x y) fun z => .ok (.d z) M
  | .chain o o' a b c, σ, M => (evE a σ M).bind fun w M => (evE b σ M).bind fun w' M => ofO (asD M w) fun x => ofO (asD M w') fun y => match opD o x y with
    | some (.bl true) => (evE c σ M).bind fun w3 M => ofO (asD M w') fun y => ofO (asD M w3) fun z => ofO (opD o' y z) fun r => .ok (.d r) M
    | some (.bl false) => .ok (.d (.bl false)) M
    | _ => .bad
  | .not a, σ, M => (evE a σ M).bind fun w M => match w with
    | .d (.bl b) => .ok (.d (.bl (!b))) M
    | _ => .bad
  | .and es, σ, M => evAnd es σ M
  | .or es, σ, M => evOr es σ M
  | .ife c a b, σ, M => (evE c σ M).bind fun w M => match w with
    | .d (.bl true) => evE a σ M
    | .d (.bl false) => evE b σ M
    | _ => .bad
  | .bi b es, σ, M => (evEs es σ M).bind fun ws M => ofO (ws.mapM (asD M)) fun ds => ofO (biD b ds) fun x => .ok (.d x) M
  | .un b a, σ, M => (evE a σ M).bind fun w M => ofO (asD M w) fun x => ofO (biD b [x]) fun y => .ok (.d y) M
  | .call f es, σ, M => (evEs es σ M).bind fun ws M => Γ f ws M
  | .calll i es, σ, M => match σ[i]? with
    | some (some (.d (.fn f))) => (evEs es σ M).bind fun ws M => Γ f ws M
    | _ => .bad
  | .slice a lo hi, σ, M => (evE a σ M).bind fun w M => (evOpt lo σ M).bind fun l M => (evOpt hi σ M).bind fun h M => ofO (asD M w) fun x => ofO (cutD l h x) fun y => .ok (.d y) M
  | .rev a, σ, M => (evE a σ M).bind fun w M => ofO (asD M w) fun x => ofO (revD x) fun y => .ok (.d y) M
  | .sorted a, σ, M => (evE a σ M).bind fun w M => ofO (asD M w) fun x => ofO (sortedD x) fun y => .ok (.d y) M
  | .sortedK _ a, σ, M => (evE a σ M).bind fun w M => ofO (asD M w) fun x => ofO (sortKD x) fun y => .ok (.d y) M
  | .dcomp t it k v, σ, M => (evIt it σ M).bind fun p M => (dcLoop p.2 (fun x => bindT t x (wipe σ t.vars)) (evE k) (evE v) p.1 [] M).bind fun kvs M => .ok (.d (.dcf (kvs.map (·.1)) (kvs.map (·.2)))) M
  | .listof mu a, σ, M => (evE a σ M).bind fun w M => ofO (asD M w) fun x => match x with
    | .lst ds => mkL mu ds M
    | .tup ds => mkL mu ds M
    | _ => .bad
  | .rep mu a b, σ, M => (evE a σ M).bind fun w M => (evE b σ M).bind fun w' M => ofO (asD M w) fun x => ofO (asD M w') fun y => match mulD x y with
    | some (.lst ds) => mkL mu ds M
    | _ => .bad
  | .comp mu t it cond elt, σ, M => (evIt it σ M).bind fun p M =>
      (compAll p.2 (fun x => bindT t x (wipe σ t.vars)) (evCond cond) (evE elt) p.1 M).bind fun ds M => mkL mu ds M
  | .comp2 t it t2 it2 elt, σ, M => (evIt it σ M).bind fun p M =>
      (flatAll p.2 (fun x => bindT t x (wipe σ (t.vars ++ t2.vars))) (evIt it2) (fun σ1 y => bindT t2 y (wipe σ1 t2.vars)) (evE elt) p.1 M).bind fun ds M => mkL 0 ds M
  | .meth m a es, σ, M => (evE a σ M).bind fun w M => if lstW w M then (evEs es σ M).bind fun ws M => methW m w ws M else .bad
  | .inn a b, σ, M => (evE a σ M).bind fun w M => (evE b σ M).bind fun w' M => innW M w w'
  | .nnil a, σ, M => (evE a σ M).bind fun w M => nnilW M w
  | .appN a e, σ, M => (evE a σ M).bind fun w M => if lssW M w then (evE e σ M).bind fun w' M2 => appNW M.length M2 w w' else .bad
  | .make f e, σ, M => (evE e σ M).bind fun w M => Γ f [w] M
  | .fsp a, σ, M => (evE a σ M).bind fun w M => fspW M w
  | .frw a, σ, M => (evE a σ M).bind fun w M => frwW M w
  | .mcall f a es, σ, M => (evE a σ M).bind fun w M => if insW M w then (evEs es σ M).bind fun ws M => Γ f (w :: ws) M else .bad
  | .idx a b, σ, M => (evE a σ M).bind fun w M => if lstW w M then (evE b σ M).bind fun w' M => ofO (asD M w) fun x => ofO (asD M w') fun y => ofO (idxD x y) fun z => .ok (.d z) M else .bad
  | .callx e es, σ, M => (evE e σ M).bind fun w M => match w with
    | .d (.fn f) => (evEs es σ M).bind fun ws M => Γ f ws M
    | _ => .bad
  | .mlen f a, σ, M => (evE a σ M).bind fun w M => if insW M w then (Γ f [w] M).bind fun r M => match r with
    | .d (.int n) => if 0 ≤ n ∧ n ≤ 1000000 then .ok (.d (.int n)) M else .bad
    | _ => .bad else .bad
def evEs : List Ex → Sl → Mem → R (List W)
  | [], _, M => .ok [] M
  | e :: es, σ, M => (evE e σ M).bind fun w M => (evEs es σ M).bind fun ws M => .ok (w :: ws) M
def evDs : List Ex → Sl → Mem → R (List D)
  | [], _, M => .ok [] M
  | e :: es, σ, M => (evE e σ M).bind fun w M => (evDs es σ M).bind fun ds M => match w with
    | .d x => .ok (x :: ds) M
    | _ => .bad
def evAnd : List Ex → Sl → Mem → R W
  | [], _, _ => .bad
  | [e], σ, M => evE e σ M
  | e :: es, σ, M => (evE e σ M).bind fun w M => match w with
    | .d (.bl true) => evAnd es σ M
    | .d (.bl false) => .ok (.d (.bl false)) M
    | _ => .bad
def evOr : List Ex → Sl → Mem → R W
  | [], _, _ => .bad
  | [e], σ, M => evE e σ M
  | e :: es, σ, M => (evE e σ M).bind fun w M => match w with
    | .d (.bl true) => .ok (.d (.bl true)) M
    | .d (.bl false) => evOr es σ M
    | _ => .bad
def evOpt : Option Ex → Sl → Mem → R (Option Int)
  | none, _, M => .ok none M
  | some e, σ, M => (evE e σ M).bind fun w M => match w with
    | .d (.int i) => .ok (some i) M
    | _ => .bad
def evCond : Option Ex → Sl → Mem → R W
  | none, _, M => .ok (.d (.bl true)) M
  | some e, σ, M => evE e σ M
def evIt : It → Sl → Mem → R (List D × (Mem → Bool))
  | .seq a, σ, M => (evE a σ M).bind fun w M => ofO (asD M w) fun x => ofO (itemsD x) fun xs => .ok (xs, still w x) M
  | .range1 a, σ, M => (evE a σ M).bind fun w M => match w with
    | .d (.int n) => if -1000000 ≤ n ∧ n ≤ 1000000 then .ok ((List.range n.toNat).map (fun (i : Nat) => D.int (i : Int)), fun _ => true) M else .bad
    | _ => .bad
  | .range2 a b, σ, M => (evE a σ M).bind fun w M => (evE b σ M).bind fun w' M => match w, w' with
    | .d (.int m), .d (.int n) => if -1000000 ≤ m ∧ m ≤ 1000000 ∧ -1000000 ≤ n ∧ n ≤ 1000000 then .ok ((List.range (n - m).toNat).map (fun (i : Nat) => D.int (m + (i : Int))), fun _ => true) M else .bad
    | _, _ => .bad
  | .zip a b, σ, M => (evE a σ M).bind fun w M => (evE b σ M).bind fun w' M => ofO (asD M w) fun x => ofO (asD M w') fun y => ofO (sitems x) fun xs => ofO (sitems y) fun ys => .ok (List.zipWith (fun a b => D.tup [a, b]) xs ys, fun M => still w x M && still w' y M) M
  | .enum a, σ, M => (evE a σ M).bind fun w M => ofO (asD M w) fun x => ofO (sitems x) fun xs => if xs.length ≤ line then .ok (xs.mapIdx fun i a => D.tup [.int (i : Int), a], still w x) M else .bad
  | .items a, σ, M => (evE a σ M).bind fun w M => match w with
    | .d (.dct ks vs) => .ok (List.zipWith (fun a b => D.tup [a, b]) ks vs, fun _ => true) M
    | _ => .bad
end
end

/-! ### statements -/
inductive Out where
  | nx (σ : Sl) (M : Mem) | ret (w : W) (M : Mem) | exc (c : Nat) (M : Mem) | bad

def R.out {α : Type} (r : R α) (f : α → Mem → Out) : Out := match r with
  | .ok a M => f a M
  | .exc c M => .exc c M
  | .bad => .bad
def Out.andThen (o : Out) (f : Sl → Mem → Out) : Out := match o with
  | .nx σ M => f σ M
  | .ret w M => .ret w M
  | .exc c M => .exc c M
  | .bad => .bad
@[simp] theorem out_ok {α : Type} (a : α) (M : Mem) (f : α → Mem → Out) : (R.ok a M).out f = f a M := (rfl)
@[simp] theorem out_exc {α : Type} (c : Nat) (M : Mem) (f : α → Mem → Out) : (R.exc c M : R α).out f = .exc c M := (rfl)
@[simp] theorem out_bad {α : Type} (f : α → Mem → Out) : (R.bad : R α).out f = .bad := (rfl)
@[simp] theorem then_nx (σ : Sl) (M : Mem) (f : Sl → Mem → Out) : (Out.nx σ M).andThen f = f σ M := (rfl)
@[simp] theorem then_ret (w : W) (M : Mem) (f : Sl → Mem → Out) : (Out.ret w M).andThen f = .ret w M := (rfl)
@[simp] theorem then_exc (c : Nat) (M : Mem) (f : Sl → Mem → Out) : (Out.exc c M).andThen f = .exc c M := (rfl)
@[simp] theorem then_bad (f : Sl → Mem → Out) : Out.bad.andThen f = .bad := (rfl)
def ofOut {α : Type} (o : Option α) (f : α → Out) : Out := match o with
  | some a => f a
  | none => .bad

def forLoop (chk : Mem → Bool) (bind : D → Sl → Option Sl) (body : Sl → Mem → Out) : List D → Sl → Mem → Out
  | [], σ, M => if chk M then .nx σ M else .bad
  | x :: xs, σ, M => if chk M then ofOut (bind x σ) fun σ1 => (body σ1 M).andThen fun σ2 M2 => forLoop chk bind body xs σ2 M2 else .bad

def whileLoop (cond : Sl → Mem → R W) (body : Sl → Mem → Out) : Nat → Sl → Mem → Out
  | 0, _, _ => .bad
  | n + 1, σ, M => (cond σ M).out fun w M1 => match w with
    | .d (.bl true) => (body σ M1).andThen fun σ2 M2 => whileLoop cond body n σ2 M2
    | .d (.bl false) => .nx σ M1
    | _ => .bad

/-- a[i] = x -/
def setW (w i : W) (x : D) (M : Mem) : Option Mem := match w, i with
  | .r l, .d k => (match M[l]?, k with
    | some (.lst ds), .int j => (ix ds.length j).map fun n => M.set l (.lst (ds.set n x))
    | some (.dct kvs), k => if k.key && decide (kvs.length < line) then some (M.set l (.dct (putD k x kvs))) else none
    | _, _ => none)
  | _, _ => none

def augI : Op → Int → Int → Option Int
  | .add, a, b => some (a + b)
  | .sub, a, b => some (a - b)
  | _, _, _ => none
/-- an int in a list -/
def getIx (w i : W) (M : Mem) : Option Int := match w, i with
  | .r l, .d (.int k) => if 0 ≤ k then (match M[l]? with
    | some (.lst ds) => (match ds[k.toNat]? with
      | some (.int x) => if ds.length ≤ line then some x else none
      | _ => none)
    | _ => none) else none
  | _, _ => none

/-- a list, a dict in the memory becomes a value -/
def freeze (w : W) (M : Mem) : Option (D × Mem) := match w with
  | .d x => some (x, M)
  | .r l => (match M[l]? with
    | some (.lst ds) => some (.lst ds, M.set l .dead)
    | some (.dct kvs) => some (.dct (kvs.map (·.1)) (kvs.map (·.2)), M.set l .dead)
    | some (.lsts dss) => some (.lst (dss.map .lst), M.set l .dead)
    | _ => none)
  | .rf _ _ => none

def raisedS : List Nat := [114, 97, 105, 115, 101, 100]
/-- the end of a try -/
def tryO (xs : List Nat) : Out → Out
  | .exc c M => if xs.contains c then .ret (.d (.tup [.str raisedS, .int ((c : Int) - 1)])) M else .bad
  | o => o
def putAll : List Nat → List W → Sl → Option Sl
  | [], [], σ => some σ
  | i :: is, w :: ws, σ => putAll is ws (σ.put i w)
  | _, _, _ => none

section
variable (Γ : Nat → List W → Mem → R W)
mutual
def evS : Sm → Sl → Mem → Out
  | .asg t e, σ, M => (evE Γ e σ M).out fun w M => match t with
    | .nm i => .nx (σ.put i w) M
    | .tup ts => ofOut (asD M w) fun x => match x with
      | .tup ds => ofOut (bindTs ts ds σ) fun σ => .nx σ M
      | .lst ds => ofOut (bindTs ts ds σ) fun σ => .nx σ M
      | _ => .bad
  | .par is es, σ, M => (evEs Γ es σ M).out fun ws M => ofOut (putAll is ws σ) fun σ => .nx σ M
  | .aug i o e, σ, M => match σ[i]? with
    | some (some (.d (.int x))) => (evE Γ e σ M).out fun w M => match w with
      | .d (.int y) => ofOut (augI o x y) fun z => .nx (σ.put i (.d (.int z))) M
      | _ => .bad
    | _ => .bad
  | .set a i e, σ, M => (evE Γ e σ M).out fun w M => match w with
    | .d x => (evE Γ a σ M).out fun wa M => (evE Γ i σ M).out fun wi M => ofOut (setW wa wi x M) fun M => .nx σ M
    | _ => .bad
  | .augix a i o e, σ, M => (evE Γ a σ M).out fun wa M => (evE Γ i σ M).out fun wi M => ofOut (getIx wa wi M) fun old => (evE Γ e σ M).out fun w M => match w with
      | .d (.int y) => ofOut (augI o old y) fun z => ofOut (setW wa wi (.int z) M) fun M => .nx σ M
      | _ => .bad
  | .ex e, σ, M => (evE Γ e σ M).out fun _ M => .nx σ M
  | .iff c a b, σ, M => (evE Γ c σ M).out fun w M => match w with
    | .d (.bl true) => evSs a σ M
    | .d (.bl false) => evSs b σ M
    | _ => .bad
  | .for_ t it body, σ, M => (evIt Γ it σ M).out fun p M => forLoop p.2 (fun x σ => bindT t x σ) (evSs body) p.1 σ M
  | .whl c body, σ, M => whileLoop (evE Γ c) (evSs body) 1000 σ M
  | .ret e, σ, M => (evE Γ e σ M).out fun w M => .ret w M
  | .retF i, σ, M => match σ[i]? with
    | some (some w) => ofOut (freeze w M) fun q => .ret (.d q.1) q.2
    | _ => .bad
  | .rse c, _, M => .exc c M
  | .fz i, σ, M => match σ[i]? with
    | some (some w) => ofOut (freeze w M) fun q => .nx (σ.put i (.d q.1)) q.2
    | _ => .bad
  | .setSp a e, σ, M => (evE Γ e σ M).out fun w M => match w with
    | .d x => (evE Γ a σ M).out fun wa M => ofOut (setSpW x M wa) fun M => .nx σ M
    | _ => .bad
  | .setRw i e, σ, M => (evE Γ e σ M).out fun w M1 => match σ[i]? with
    | some (some wa) => ofOut (setRwW M.length M1 wa w) fun p => .nx (σ.put i p.1) p.2
    | _ => .bad
  | .mkS g, σ, M => match σ with
    | [some w] => (match Γ g [.r M.length, w] (M ++ [.ins0]) with
      | .ok (.d .non) M' => .ret (.r M.length) M'
      | .exc c M' => .exc c M'
      | _ => .bad)
    | _ => .bad
  | .tryW xs b, σ, M => tryO xs (evSs b σ M)
def evSs : List Sm → Sl → Mem → Out
  | [], σ, M => .nx σ M
  | s :: ss, σ, M => (evS s σ M).andThen fun σ M => evSs ss σ M
end
end

structure Fn where
  np : Nat
  ns : Nat
  body : List Sm

/-- a def's end: what it has made for itself is gone -/
def fin (n : Nat) : Out → R W
  | .nx _ M => .ok (.d .non) (M.take n)
  | .ret w M => (match w with
    | .d x => .ok (.d x) (M.take n)
    | .r l => if l < n then .ok (.r l) (M.take n) else (match M[l]? with
      | some o => .ok (.r n) (M.take n ++ [o])
      | none => .bad)
    | .rf l f => if l < n then .ok (.rf l f) (M.take n) else .bad)
  | .exc c M => .exc c (M.take n)
  | .bad => .bad

def entry (f : Fn) (ws : List W) : Sl := ws.map some ++ List.replicate (f.ns - ws.length) none

def call (T : Nat → Option Fn) : Nat → Nat → List W → Mem → R W
  | 0, _, _, _ => .bad
  | k + 1, f, ws, M => match T f with
    | none => .bad
    | some fn => if ws.length = fn.np then fin M.length (evSs (call T k) fn.body (entry fn ws) M) else .bad

end G

set_option Elab.async false
set_option linter.all false
set_option autoImplicit false
set_option maxRecDepth 100000
set_option maxHeartbeats 4000000
/-! Soundness, part 1: how values and the memory lie in the abstract heap. -/
namespace G
open PySem PySem.Spec PyProof.Rows L2

/-- ls: where the things of the memory lie; ex: what somebody further out is still making -/
structure Rho where
  ls : List (List Addr)
  ex : List Addr
def mu (ρ : Rho) (a : Addr) : Prop := a ∈ ρ.ls.flatten ∨ a ∈ ρ.ex

/-- an address lies in one place alone -/
theorem flat_one : ∀ {ls : List (List Addr)} {i j : Nat} {as bs : List Addr} {a : Addr}, ls.flatten.Nodup → ls[i]? = some as → ls[j]? = some bs → a ∈ as → a ∈ bs → i = j
  | [], _, _, _, _, _, _, h, _, _, _ => by simp at h
  | x :: ls, 0, 0, _, _, _, _, _, _, _, _ => rfl
  | x :: ls, 0, j + 1, as, bs, a, nd, h, g, ha, hb => by
    simp only [List.getElem?_cons_zero, Option.some.injEq] at h; subst h
    simp only [List.getElem?_cons_succ] at g
    rw [List.flatten_cons, List.nodup_append] at nd
    exact (nd.2.2 a ha a (List.mem_flatten.mpr ⟨bs, List.mem_of_getElem? g, hb⟩) rfl).elim
  | x :: ls, i + 1, 0, as, bs, a, nd, h, g, ha, hb => by
    simp only [List.getElem?_cons_zero, Option.some.injEq] at g; subst g
    simp only [List.getElem?_cons_succ] at h
    rw [List.flatten_cons, List.nodup_append] at nd
    exact (nd.2.2 a hb a (List.mem_flatten.mpr ⟨as, List.mem_of_getElem? h, ha⟩) rfl).elim
  | x :: ls, i + 1, j + 1, as, bs, a, nd, h, g, ha, hb => by
    simp only [List.getElem?_cons_succ] at h g
    rw [List.flatten_cons, List.nodup_append] at nd
    rw [flat_one nd.2.1 h g ha hb]

/-- where the defs stand; the world -/
structure FW where
  f : Nat → Option Addr
  p : Program
  w : World
  /-- the class -/
  c : Addr
/-! ### dicts -/
mutual
/-- a key, up to == -/
def nk : D → NestedKey
  | .int i => .num i
  | .str z => .text ⟨z.toArray⟩
  | .tup ds => .tup (nks ds)
  | .non => .none | .bl _ => .none | .ktup _ => .none | .lst _ => .none | .frz _ => .none | .dct _ _ => .none | .dcf _ _ => .none | .fn _ => .none
def nks : List D → List NestedKey
  | [] => []
  | d :: ds => nk d :: nks ds
end
/-- a flat key -/
def fk : D → Option Key
  | .int i => some (.inl i)
  | .str z => some (.inr ⟨z.toArray⟩)
  | _ => none
/-- a thing that is known to the object -/
def oHO (a : Addr) (o : Obj) : HO := .ext fun h => h.get? a = some o
/-- a dict with tuples as keys -/
structure DR (fa : FW) (a : Addr) (o : Obj) (ks : List D) (kv vv : List V) (xs : List (NestedKey × Addr × Value)) : Prop where
  sys : (a == sysModules) = false
  ex : o.ExactDict
  dat : ∃ es ep, o.data = .dict es ep ∧ es.toList = xs.map (entryOfKey (nestedKind fa.p fa.w))
  key : ∀ k ∈ ks, k.key = true
  ks : xs.map (·.1) = ks.map nk
  ad : kv = xs.map fun x => .ref x.2.1
  vs : Vals vv (xs.map (·.2.2))
  nd : (xs.map (·.1)).Nodup
  sz : xs.length ≤ sizeLine
/-- .. with flat keys -/
structure DF (fa : FW) (a : Addr) (o : Obj) (ks : List D) (vv : List V) (xs : List (Option Key × Value)) : Prop where
  dat : ∀ h : Heap, h.get? a = some o → h.DictOf (noneKind fa.p fa.w) a xs
  key : ∀ k ∈ ks, k.fkey = true
  ks : xs.map (·.1) = ks.map fk
  vs : Vals vv (xs.map (·.2))
  nd : (xs.map (·.1)).Nodup
  sz : xs.length ≤ sizeLine
section
variable (K : PySem.W.Frag) (fa : FW)
mutual
def Rl (m : Addr → Prop) (H : Hp) : D → V → Prop
  | .non, v => v = .non
  | .bl b, v => v = .bl b
  | .int i, v => v = .int i
  | .str z, v => v = .str ⟨z.toArray⟩
  | .tup ds, v => ∃ a vs, v = .ref a ∧ ¬ m a ∧ H a = some (.tup vs) ∧ Rls m H ds vs
  | .ktup ds, v => ∃ a vs, v = .ref a ∧ (∀ H', SqT K H' a vs) ∧ Rls m H ds vs
  | .lst ds, v => ∃ a vs, v = .ref a ∧ ¬ m a ∧ H a = some (.lst vs) ∧ Rls m H ds vs
  | .frz ds, v => ∃ a vs, v = .ref a ∧ ((∃ o, ¬ m a ∧ H a = some (.frz o (.lst vs))) ∨ ∀ H', SqL K H' a vs) ∧ Rls m H ds vs
  | .dct ks vs, v => ∃ a o xs kv vv, v = .ref a ∧ ¬ m a ∧ H a = some (oHO a o) ∧ Rls m H ks kv ∧ Rls m H vs vv ∧ DR fa a o ks kv vv xs
  | .dcf ks vs, v => ∃ a o xs vv, v = .ref a ∧ ¬ m a ∧ H a = some (oHO a o) ∧ Rls m H vs vv ∧ DF fa a o ks vv xs
  | .fn i, v => ∃ a, fa.f i = some a ∧ v = .ref a
def Rls (m : Addr → Prop) (H : Hp) : List D → List V → Prop
  | [], vs => vs = []
  | d :: ds, vs => ∃ v r, vs = v :: r ∧ Rl m H d v ∧ Rls m H ds r
end

/-- what nobody may change stays -/
def Kp (m m' : Addr → Prop) (H H' : Hp) : Prop := ∀ a o, H a = some o → ¬ m a → H' a = some o ∧ ¬ m' a

variable {K fa}
mutual
theorem Rl.keep {m m' : Addr → Prop} {H H' : Hp} (k : Kp m m' H H') : ∀ {d : D} {v : V}, Rl K fa m H d v → Rl K fa m' H' d v
  | .non, v, h => by simpa [Rl] using h
  | .bl b, v, h => by simpa [Rl] using h
  | .int i, v, h => by simpa [Rl] using h
  | .str z, v, h => by simpa [Rl] using h
  | .tup ds, v, h => by
    simp only [Rl] at h ⊢
    obtain ⟨a, vs, e, n, ha, r⟩ := h
    exact ⟨a, vs, e, (k a _ ha n).2, (k a _ ha n).1, Rls.keep k r⟩
  | .ktup ds, v, h => by
    simp only [Rl] at h ⊢
    obtain ⟨a, vs, e, n, r⟩ := h
    exact ⟨a, vs, e, n, Rls.keep k r⟩
  | .lst ds, v, h => by
    simp only [Rl] at h ⊢
    obtain ⟨a, vs, e, n, ha, r⟩ := h
    exact ⟨a, vs, e, (k a _ ha n).2, (k a _ ha n).1, Rls.keep k r⟩
  | .frz ds, v, h => by
    simp only [Rl] at h ⊢
    obtain ⟨a, vs, e, n, r⟩ := h
    refine ⟨a, vs, e, ?_, Rls.keep k r⟩
    rcases n with ⟨o, n, ha⟩ | n
    · exact .inl ⟨o, (k a _ ha n).2, (k a _ ha n).1⟩
    · exact .inr n
  | .dct ks vs, v, h => by
    simp only [Rl] at h ⊢
    obtain ⟨a, o, xs, kv, vv, e, n, ha, r, r2, d⟩ := h
    exact ⟨a, o, xs, kv, vv, e, (k a _ ha n).2, (k a _ ha n).1, Rls.keep k r, Rls.keep k r2, d⟩
  | .dcf ks vs, v, h => by
    simp only [Rl] at h ⊢
    obtain ⟨a, o, xs, vv, e, n, ha, r, d⟩ := h
    exact ⟨a, o, xs, vv, e, (k a _ ha n).2, (k a _ ha n).1, Rls.keep k r, d⟩
  | .fn i, v, h => by simpa [Rl] using h
theorem Rls.keep {m m' : Addr → Prop} {H H' : Hp} (k : Kp m m' H H') : ∀ {ds : List D} {vs : List V}, Rls K fa m H ds vs → Rls K fa m' H' ds vs
  | [], vs, h => by simpa [Rls] using h
  | d :: ds, vs, h => by
    simp only [Rls] at h ⊢
    obtain ⟨v, r, e, h1, h2⟩ := h
    exact ⟨v, r, e, Rl.keep k h1, Rls.keep k h2⟩
end

variable {m : Addr → Prop} {H H' : Hp}
theorem Rls.length : ∀ {ds : List D} {vs : List V}, Rls K fa m H ds vs → ds.length = vs.length
  | [], _, h => by simp only [Rls] at h; simp [h]
  | d :: ds, _, h => by
    simp only [Rls] at h
    obtain ⟨v, r, rfl, _, h2⟩ := h
    simp [Rls.length h2]
theorem Rls.get : ∀ {ds : List D} {vs : List V} {i : Nat} {d : D}, Rls K fa m H ds vs → ds[i]? = some d → ∃ v, vs[i]? = some v ∧ Rl K fa m H d v
  | [], _, _, _, _, e => by simp at e
  | x :: ds, _, 0, d, h, e => by
    simp only [Rls] at h
    obtain ⟨v, r, rfl, h1, h2⟩ := h
    simp at e; subst e
    exact ⟨v, rfl, h1⟩
  | x :: ds, _, i + 1, d, h, e => by
    simp only [Rls] at h
    obtain ⟨v, r, rfl, h1, h2⟩ := h
    obtain ⟨u, e1, e2⟩ := Rls.get (i := i) h2 (by simpa using e)
    exact ⟨u, by simpa using e1, e2⟩
theorem Rls.append : ∀ {ds es : List D} {vs us : List V}, Rls K fa m H ds vs → Rls K fa m H es us → Rls K fa m H (ds ++ es) (vs ++ us)
  | [], _, _, _, h, g => by simp only [Rls] at h; subst h; simpa using g
  | d :: ds, _, _, _, h, g => by
    simp only [Rls] at h
    obtain ⟨v, r, rfl, h1, h2⟩ := h
    simp only [List.cons_append, Rls]
    exact ⟨v, _, rfl, h1, Rls.append h2 g⟩
theorem Rls.one {d : D} {v : V} (h : Rl K fa m H d v) : Rls K fa m H [d] [v] := by simp only [Rls]; exact ⟨v, [], rfl, h, rfl⟩
theorem Rls.drop : ∀ {ds : List D} {vs : List V} (n : Nat), Rls K fa m H ds vs → Rls K fa m H (ds.drop n) (vs.drop n)
  | _, _, 0, h => h
  | [], _, n + 1, h => by simp only [Rls] at h; subst h; simp [Rls]
  | d :: ds, _, n + 1, h => by
    simp only [Rls] at h
    obtain ⟨v, r, rfl, h1, h2⟩ := h
    simpa using Rls.drop n h2
theorem Rls.take : ∀ {ds : List D} {vs : List V} (n : Nat), Rls K fa m H ds vs → Rls K fa m H (ds.take n) (vs.take n)
  | _, _, 0, h => by simp [Rls]
  | [], _, n + 1, h => by simp only [Rls] at h; subst h; simp [Rls]
  | d :: ds, _, n + 1, h => by
    simp only [Rls] at h
    obtain ⟨v, r, rfl, h1, h2⟩ := h
    simp only [List.take_succ_cons, Rls]
    exact ⟨v, _, rfl, h1, Rls.take n h2⟩
theorem Rls.reverse : ∀ {ds : List D} {vs : List V}, Rls K fa m H ds vs → Rls K fa m H ds.reverse vs.reverse
  | [], _, h => by simp only [Rls] at h; subst h; simp [Rls]
  | d :: ds, _, h => by
    simp only [Rls] at h
    obtain ⟨v, r, rfl, h1, h2⟩ := h
    simp only [List.reverse_cons]
    exact (Rls.reverse h2).append (.one h1)
theorem Rls.set {x : D} {u : V} (hx : Rl K fa m H x u) : ∀ {ds : List D} {vs : List V} (n : Nat), Rls K fa m H ds vs → Rls K fa m H (ds.set n x) (vs.set n u)
  | [], _, _, h => by simp only [Rls] at h; subst h; simp [Rls]
  | d :: ds, _, 0, h => by
    simp only [Rls] at h
    obtain ⟨v, r, rfl, h1, h2⟩ := h
    simp only [List.set_cons_zero, Rls]
    exact ⟨u, r, rfl, hx, h2⟩
  | d :: ds, _, n + 1, h => by
    simp only [Rls] at h
    obtain ⟨v, r, rfl, h1, h2⟩ := h
    simp only [List.set_cons_succ, Rls]
    exact ⟨v, _, rfl, h1, Rls.set hx n h2⟩
theorem Rls.eraseIdx : ∀ {ds : List D} {vs : List V} (n : Nat), Rls K fa m H ds vs → Rls K fa m H (ds.eraseIdx n) (vs.eraseIdx n)
  | [], _, _, h => by simp only [Rls] at h; subst h; simp [Rls]
  | d :: ds, _, 0, h => by
    simp only [Rls] at h
    obtain ⟨v, r, rfl, h1, h2⟩ := h
    simpa using h2
  | d :: ds, _, n + 1, h => by
    simp only [Rls] at h
    obtain ⟨v, r, rfl, h1, h2⟩ := h
    simp only [List.eraseIdx_cons_succ, Rls]
    exact ⟨v, _, rfl, h1, Rls.eraseIdx n h2⟩
theorem Rls.rep {ds : List D} {vs : List V} (h : Rls K fa m H ds vs) : ∀ k : Nat, Rls K fa m H (List.replicate k ds).flatten (List.replicate k vs).flatten
  | 0 => by simp [Rls]
  | k + 1 => by
    simp only [List.replicate_succ, List.flatten_cons]
    exact h.append (Rls.rep h k)
theorem Rls.nil {vs : List V} (h : Rls K fa m H [] vs) : vs = [] := by simpa [Rls] using h
theorem Rls.cons {d : D} {ds : List D} {v : V} {vs : List V} (h1 : Rl K fa m H d v) (h2 : Rls K fa m H ds vs) : Rls K fa m H (d :: ds) (v :: vs) := by simp only [Rls]; exact ⟨v, vs, rfl, h1, h2⟩
theorem Rls.uncons {d : D} {ds : List D} {vs : List V} (h : Rls K fa m H (d :: ds) vs) : ∃ v r, vs = v :: r ∧ Rl K fa m H d v ∧ Rls K fa m H ds r := by simpa only [Rls] using h
end

/-! ### the memory -/
section
variable (K : PySem.W.Frag) (fa : FW)
/-- the lists of a list of lists -/
def Inn (m : Addr → Prop) (H : Hp) : List (List D) → List Addr → Prop
  | [], bs => bs = []
  | ds :: dss, bs => ∃ b r vs, bs = b :: r ∧ H b = some (.lst vs) ∧ Rls K fa m H ds vs ∧ Inn m H dss r
/-- a thing of the memory at its addresses -/
def Ob (m : Addr → Prop) (H : Hp) : O → List Addr → Prop
  | .lst ds, as => ∃ a vs, as = [a] ∧ H a = some (.lst vs) ∧ Rls K fa m H ds vs
  | .dct kvs, as => ∃ a o xs kv vv, as = [a] ∧ H a = some (oHO a o) ∧ Rls K fa m H (kvs.map (·.1)) kv ∧ Rls K fa m H (kvs.map (·.2)) vv ∧ DR fa a o (kvs.map (·.1)) kv vv xs
  | .lsts dss, as => ∃ a bs, as = a :: bs ∧ H a = some (.lst (bs.map .ref)) ∧ Inn K fa m H dss bs
  | .ins0, as => ∃ a dx, as = [a] ∧ H a = some (.ins fa.c dx [])
  | .ins1 sp, as => ∃ a dx v, as = [a] ∧ H a = some (.ins fa.c dx [("spec", v)]) ∧ Rl K fa m H sp v
  | .ins sp ds, as => ∃ a b dx v vs, as = [a, b] ∧ H a = some (.ins fa.c dx [("spec", v), ("rows", .ref b)]) ∧ Rl K fa m H sp v ∧ H b = some (.lst vs) ∧ Rls K fa m H ds vs
  | .dead, as => as = []

structure Rep (ρ : Rho) (H : Hp) (M : Mem) : Prop where
  len : ρ.ls.length = M.length
  nd : (ρ.ls.flatten ++ ρ.ex).Nodup
  exd : ∀ a ∈ ρ.ex, H a ≠ none
  obj : ∀ (l : Nat) (o : O), M[l]? = some o → ∃ as, ρ.ls[l]? = some as ∧ Ob K fa (mu ρ) H o as

/-- what a name holds -/
def RlW (ρ : Rho) (H : Hp) : W → V → Prop
  | .d x, v => Rl K fa (mu ρ) H x v
  | .r l, v => l < ρ.ls.length ∧ ∀ (a : Addr) (as : List Addr), ρ.ls[l]? = some (a :: as) → v = .ref a
  | .rf l f, v => ∃ b, v = .ref b ∧ l < ρ.ls.length ∧ (ρ.ls[l]? = some [] ∨ ∃ as, ρ.ls[l]? = some as ∧ as[f + 1]? = some b)

/-- from one state to a later one -/
structure To (ρ : Rho) (H : Hp) (ρ' : Rho) (H' : Hp) : Prop where
  keep : Kp (mu ρ) (mu ρ') H H'
  len : ρ.ls.length ≤ ρ'.ls.length
  head : ∀ (l : Nat) (a : Addr) (as : List Addr), l < ρ.ls.length → ρ'.ls[l]? = some (a :: as) → ∃ as0, ρ.ls[l]? = some (a :: as0) ∧ as0 <+: as
  ex : ρ'.ex = ρ.ex
  exk : ∀ a ∈ ρ.ex, H' a = H a

variable {K fa}
theorem To.refl (ρ : Rho) (H : Hp) : To ρ H ρ H := ⟨fun _ _ h n => ⟨h, n⟩, Nat.le_refl _, fun _ _ as _ h => ⟨as, h, List.prefix_rfl⟩, rfl, fun _ _ => rfl⟩
theorem To.trans {ρ ρ1 ρ2 : Rho} {H H1 H2 : Hp} (a : To ρ H ρ1 H1) (b : To ρ1 H1 ρ2 H2) : To ρ H ρ2 H2 :=
  ⟨fun c o h n => b.keep c o (a.keep c o h n).1 (a.keep c o h n).2, Nat.le_trans a.len b.len, fun l c as hl h => by
    obtain ⟨as1, h1, p1⟩ := b.head l c as (Nat.lt_of_lt_of_le hl a.len) h
    obtain ⟨as2, h2, p2⟩ := a.head l c as1 hl h1
    exact ⟨as2, h2, p2.trans p1⟩, b.ex.trans a.ex, fun c hc => (b.exk c (by rw [a.ex]; exact hc)).trans (a.exk c hc)⟩

theorem rf_keep {ls ls' : List (List Addr)} {l f : Nat} {b : Addr} {as' : List Addr} (hl : l < ls.length) (h' : ls'[l]? = some as') (hd : ∀ a as, ls'[l]? = some (a :: as) → ∃ as0, ls[l]? = some (a :: as0) ∧ as0 <+: as)
    (h : ls[l]? = some [] ∨ ∃ as, ls[l]? = some as ∧ as[f + 1]? = some b) : ls'[l]? = some [] ∨ ∃ as, ls'[l]? = some as ∧ as[f + 1]? = some b := by
  cases as' with
  | nil => exact .inl h'
  | cons a as =>
    obtain ⟨as0, e0, p⟩ := hd a as h'
    rcases h with h | ⟨bs, h, hb⟩
    · rw [e0] at h; cases h
    · rw [e0] at h; cases h
      refine .inr ⟨_, h', ?_⟩
      obtain ⟨t, rfl⟩ := p
      simp only [List.getElem?_cons_succ] at hb ⊢
      rw [List.getElem?_append_left (List.getElem?_eq_some_iff.mp hb).1]; exact hb
theorem RlW.to {ρ ρ' : Rho} {H H' : Hp} (t : To ρ H ρ' H') {w : W} {v : V} (h : RlW K fa ρ H w v) : RlW K fa ρ' H' w v := by
  cases w with
  | d x => exact Rl.keep t.keep h
  | r l =>
    refine ⟨Nat.lt_of_lt_of_le h.1 t.len, fun a as e => ?_⟩
    obtain ⟨as0, e0, _⟩ := t.head l a as h.1 e
    exact h.2 a as0 e0
  | rf l f =>
    obtain ⟨b, e, hl, h⟩ := h
    have hl' := Nat.lt_of_lt_of_le hl t.len
    exact ⟨b, e, hl', rf_keep hl (List.getElem?_eq_getElem hl') (fun a as e1 => t.head l a as hl e1) h⟩

theorem Kp.same {m : Addr → Prop} {H H' : Hp} (s : Same H H') : Kp m m H H' := fun a o h n => ⟨s a o h, n⟩

theorem Inn.keep {m m' : Addr → Prop} {H H' : Hp} (k : Kp m m' H H') : ∀ {dss : List (List D)} {bs : List Addr}, (∀ b ∈ bs, H' b = H b) → Inn K fa m H dss bs → Inn K fa m' H' dss bs
  | [], bs, _, h => h
  | ds :: dss, bs, hk, h => by
    obtain ⟨b, r, vs, e, h1, h2, h3⟩ := h
    subst e
    exact ⟨b, r, vs, rfl, by rw [hk b (by simp)]; exact h1, h2.keep k, Inn.keep k (fun c hc => hk c (by simp [hc])) h3⟩
theorem Inn.same {m : Addr → Prop} {H H' : Hp} (s : Same H H') : ∀ {dss : List (List D)} {bs : List Addr}, Inn K fa m H dss bs → Inn K fa m H' dss bs
  | [], bs, h => h
  | ds :: dss, bs, h => by
    obtain ⟨b, r, vs, e, h1, h2, h3⟩ := h
    exact ⟨b, r, vs, e, s _ _ h1, h2.keep (.same s), Inn.same s h3⟩
theorem Inn.dom {m : Addr → Prop} {H : Hp} : ∀ {dss : List (List D)} {bs : List Addr}, Inn K fa m H dss bs → ∀ {a : Addr}, a ∈ bs → H a ≠ none
  | [], bs, h, a, ha => by rw [show bs = [] from h] at ha; simp at ha
  | ds :: dss, bs, h, a, ha => by
    obtain ⟨b, r, vs, e, h1, h2, h3⟩ := h
    subst e
    rcases List.mem_cons.mp ha with rfl | ha
    · rw [h1]; simp
    · exact Inn.dom h3 ha
theorem Inn.len {m : Addr → Prop} {H : Hp} : ∀ {dss : List (List D)} {bs : List Addr}, Inn K fa m H dss bs → dss.length = bs.length
  | [], bs, h => by rw [show bs = [] from h]; rfl
  | ds :: dss, bs, h => by
    obtain ⟨b, r, vs, e, h1, h2, h3⟩ := h
    subst e; simp [Inn.len h3]
theorem Inn.get {m : Addr → Prop} {H : Hp} : ∀ {dss : List (List D)} {bs : List Addr} {j : Nat} {ds : List D}, Inn K fa m H dss bs → dss[j]? = some ds → ∃ b vs, bs[j]? = some b ∧ H b = some (.lst vs) ∧ Rls K fa m H ds vs
  | [], bs, j, ds, h, e => by simp at e
  | d :: dss, bs, 0, ds, h, e => by
    obtain ⟨b, r, vs, rfl, h1, h2, h3⟩ := h
    simp at e; subst e
    exact ⟨b, vs, rfl, h1, h2⟩
  | d :: dss, bs, j + 1, ds, h, e => by
    obtain ⟨b, r, vs, rfl, h1, h2, h3⟩ := h
    obtain ⟨b', vs', g1, g2, g3⟩ := Inn.get (j := j) h3 (by simpa using e)
    exact ⟨b', vs', by simpa using g1, g2, g3⟩
theorem Inn.set {m : Addr → Prop} {H H' : Hp} (k : Kp m m H H') {b : Addr} {ds : List D} {vs : List V} (hb : H' b = some (.lst vs)) (r : Rls K fa m H ds vs) : ∀ {dss : List (List D)} {bs : List Addr} {j : Nat}, bs.Nodup → (∀ c ∈ bs, c ≠ b → H' c = H c) → bs[j]? = some b → Inn K fa m H dss bs → Inn K fa m H' (dss.set j ds) bs
  | [], bs, j, _, _, e, h => by rw [show bs = [] from h] at e; simp at e
  | d :: dss, bs, 0, nd, hk, e, h => by
    obtain ⟨c, rr, vs', rfl, h1, h2, h3⟩ := h
    simp at e; subst e
    rw [List.nodup_cons] at nd
    refine ⟨c, rr, vs, rfl, hb, r.keep k, h3.keep k fun x hx => hk x (by simp [hx]) fun e => nd.1 (e ▸ hx)⟩
  | d :: dss, bs, j + 1, nd, hk, e, h => by
    obtain ⟨c, rr, vs', rfl, h1, h2, h3⟩ := h
    rw [List.nodup_cons] at nd
    have e' : rr[j]? = some b := by simpa using e
    refine ⟨c, rr, vs', rfl, ?_, h2.keep k, Inn.set k hb r nd.2 (fun x hx => hk x (by simp [hx])) e' h3⟩
    rw [hk c (by simp) fun q => nd.1 (q ▸ List.mem_of_getElem? e')]; exact h1
theorem Inn.app {m : Addr → Prop} {H : Hp} {b : Addr} {ds : List D} {vs : List V} (hb : H b = some (.lst vs)) (r : Rls K fa m H ds vs) : ∀ {dss : List (List D)} {bs : List Addr}, Inn K fa m H dss bs → Inn K fa m H (dss ++ [ds]) (bs ++ [b])
  | [], bs, h => by rw [show bs = [] from h]; exact ⟨b, [], vs, rfl, hb, r, rfl⟩
  | d :: dss, bs, h => by
    obtain ⟨c, rr, vs', rfl, h1, h2, h3⟩ := h
    exact ⟨c, rr ++ [b], vs', rfl, h1, h2, Inn.app hb r h3⟩
theorem Ob.same {m : Addr → Prop} {H H' : Hp} (s : Same H H') : ∀ {o : O} {as : List Addr}, Ob K fa m H o as → Ob K fa m H' o as
  | .lst ds, as, ⟨a, vs, e, h, r⟩ => ⟨a, vs, e, s _ _ h, r.keep (.same s)⟩
  | .dct kvs, as, ⟨a, o, xs, kv, vv, e, h, r, r2, d⟩ => ⟨a, o, xs, kv, vv, e, s _ _ h, r.keep (.same s), r2.keep (.same s), d⟩
  | .lsts _, as, ⟨a, bs, e, h, r⟩ => ⟨a, bs, e, s _ _ h, r.same s⟩
  | .ins0, as, ⟨a, dx, e, h⟩ => ⟨a, dx, e, s _ _ h⟩
  | .ins1 _, as, ⟨a, dx, v, e, h, r⟩ => ⟨a, dx, v, e, s _ _ h, r.keep (.same s)⟩
  | .ins _ _, as, ⟨a, b, dx, v, vs, e, h, r, h2, r2⟩ => ⟨a, b, dx, v, vs, e, s _ _ h, r.keep (.same s), s _ _ h2, r2.keep (.same s)⟩
  | .dead, as, h => h

theorem Rep.same {ρ : Rho} {H H' : Hp} {M : Mem} (s : Same H H') (r : Rep K fa ρ H M) : Rep K fa ρ H' M :=
  ⟨r.len, r.nd, fun a ha => by
    have := r.exd a ha
    cases q : H a with
    | none => exact absurd q this
    | some o => rw [s a o q]; simp, fun l o e => let ⟨as, h1, h2⟩ := r.obj l o e; ⟨as, h1, h2.same s⟩⟩

theorem Ob.dom {m : Addr → Prop} {H : Hp} {o : O} {as : List Addr} (h : Ob K fa m H o as) {a : Addr} (ha : a ∈ as) : H a ≠ none := by
  cases o with
  | lst ds => obtain ⟨a', vs, e, h1, _⟩ := h; rw [e] at ha; simp at ha; subst ha; rw [h1]; simp
  | dct kvs => obtain ⟨a', o, xs, kv, vv, e, h1, _⟩ := h; rw [e] at ha; simp at ha; subst ha; rw [h1]; simp
  | lsts _ =>
    obtain ⟨a', bs, e, h1, h2⟩ := h
    rw [e] at ha
    rcases List.mem_cons.mp ha with rfl | ha
    · rw [h1]; simp
    · exact h2.dom ha
  | ins0 => obtain ⟨a', dx, e, h1⟩ := h; rw [e] at ha; simp at ha; subst ha; rw [h1]; simp
  | ins1 _ => obtain ⟨a', dx, v, e, h1, _⟩ := h; rw [e] at ha; simp at ha; subst ha; rw [h1]; simp
  | ins _ _ =>
    obtain ⟨a', b, dx, v, vs, e, h1, _, h2, _⟩ := h
    rw [e] at ha; simp at ha
    rcases ha with rfl | rfl
    · rw [h1]; simp
    · rw [h2]; simp
  | dead => rw [show as = [] from h] at ha; simp at ha
/-- every address of the memory is tracked -/
theorem Rep.dom {ρ : Rho} {H : Hp} {M : Mem} (r : Rep K fa ρ H M) {a : Addr} (h : mu ρ a) : H a ≠ none := by
  rcases h with h | h
  · obtain ⟨as, h1, h2⟩ := List.mem_flatten.mp h
    obtain ⟨l, hl, rfl⟩ := List.getElem_of_mem h1
    have hM : l < M.length := r.len ▸ hl
    obtain ⟨as', e, ob⟩ := r.obj l M[l] (List.getElem?_eq_getElem hM)
    rw [List.getElem?_eq_getElem hl] at e
    cases e
    exact ob.dom h2
  · exact r.exd a h

theorem same_upd {H : Hp} {p : Addr} {o : HO} (h : H p = none) : Same H (upd H p o) := fun b x e => by
  rw [upd_ne (ne_of_none e h)]; exact e
/-- only new things were laid -/
theorem To.same {ρ : Rho} {H H' : Hp} {M : Mem} (r : Rep K fa ρ H M) (s : Same H H') : To ρ H ρ H' := ⟨fun a o h n => ⟨s a o h, n⟩, Nat.le_refl _, fun _ _ as _ h => ⟨as, h, List.prefix_rfl⟩, rfl, fun a ha => by
    have := r.exd a ha
    cases q : H a with
    | none => exact absurd q this
    | some o => exact s a o q⟩

/-! ### a list that is being made -/
def Rho.own (ρ : Rho) (p : Addr) : Rho := ⟨ρ.ls, p :: ρ.ex⟩
theorem mu_own {ρ : Rho} {p a : Addr} : mu (ρ.own p) a ↔ mu ρ a ∨ a = p := by
  simp only [mu, Rho.own, List.mem_cons]
  constructor
  · rintro (h | h | h)
    · exact .inl (.inl h)
    · exact .inr h
    · exact .inl (.inr h)
  · rintro ((h | h) | h)
    · exact .inl h
    · exact .inr (.inr h)
    · exact .inr (.inl h)
theorem Ob.keep {m m' : Addr → Prop} {H H' : Hp} (k : Kp m m' H H') {o : O} {as : List Addr} (hk : ∀ a ∈ as, H' a = H a) (h : Ob K fa m H o as) : Ob K fa m' H' o as := by
  cases o with
  | lst ds => obtain ⟨a, vs, e, h1, h2⟩ := h; exact ⟨a, vs, e, by rw [hk a (by rw [e]; simp)]; exact h1, h2.keep k⟩
  | dct kvs => obtain ⟨a, o, xs, kv, vv, e, h1, h2, h3, h4⟩ := h; exact ⟨a, o, xs, kv, vv, e, by rw [hk a (by rw [e]; simp)]; exact h1, h2.keep k, h3.keep k, h4⟩
  | lsts _ => obtain ⟨a, bs, e, h1, h2⟩ := h; exact ⟨a, bs, e, by rw [hk a (by rw [e]; simp)]; exact h1, h2.keep k fun b hb => hk b (by rw [e]; simp [hb])⟩
  | ins0 => obtain ⟨a, dx, e, h1⟩ := h; exact ⟨a, dx, e, by rw [hk a (by rw [e]; simp)]; exact h1⟩
  | ins1 _ => obtain ⟨a, dx, v, e, h1, h2⟩ := h; exact ⟨a, dx, v, e, by rw [hk a (by rw [e]; simp)]; exact h1, h2.keep k⟩
  | ins _ _ => obtain ⟨a, b, dx, v, vs, e, h1, h2, h3, h4⟩ := h; exact ⟨a, b, dx, v, vs, e, by rw [hk a (by rw [e]; simp)]; exact h1, h2.keep k, by rw [hk b (by rw [e]; simp)]; exact h3, h4.keep k⟩
  | dead => exact h
theorem upd_self {H : Hp} {p : Addr} {o : HO} (h : H p = some o) : upd H p o = H := by
  funext b; unfold upd; split
  · rename_i e; rw [e, h]
  · rfl
theorem Rep.own {ρ : Rho} {H : Hp} {M : Mem} (r : Rep K fa ρ H M) {p : Addr} {o : HO} (np : H p = none) : Rep K fa (ρ.own p) (upd H p o) M := by
  have hp : ¬ mu ρ p := fun h => r.dom h np
  have k : Kp (mu ρ) (mu (ρ.own p)) H (upd H p o) := fun a u h n => ⟨same_upd np a u h, fun h2 => by
    rcases mu_own.mp h2 with h3 | h3
    · exact n h3
    · subst h3; rw [np] at h; cases h⟩
  refine ⟨r.len, ?_, fun a ha => ?_, fun l ob e => ?_⟩
  · have := r.nd
    simp only [Rho.own]
    rw [List.nodup_append] at this ⊢
    refine ⟨this.1, List.nodup_cons.mpr ⟨fun h => hp (.inr h), this.2.1⟩, fun a ha b hb => ?_⟩
    rcases List.mem_cons.mp hb with h | h
    · subst h; exact fun e => hp (.inl (e ▸ ha))
    · exact this.2.2 a ha b h
  · rcases List.mem_cons.mp ha with h | h
    · subst h; rw [upd_same]; simp
    · have : a ≠ p := fun e => hp (.inr (e ▸ h))
      rw [upd_ne this]; exact r.exd a h
  · obtain ⟨as, h1, h2⟩ := r.obj l ob e
    refine ⟨as, h1, h2.keep k fun a ha => upd_ne fun e => ?_⟩
    exact h2.dom ha (e ▸ np)
/-- the list that is made is changed -/
theorem Rep.ownSet {ρ : Rho} {H : Hp} {M : Mem} {p : Addr} (r : Rep K fa (ρ.own p) H M) {o : HO} : Rep K fa (ρ.own p) (upd H p o) M := by
  have mp : mu (ρ.own p) p := mu_own.mpr (.inr rfl)
  have k : Kp (mu (ρ.own p)) (mu (ρ.own p)) H (upd H p o) := fun a u h n => ⟨by rw [upd_ne (fun e : a = p => n (by rw [e]; exact mp))]; exact h, n⟩
  refine ⟨r.len, r.nd, fun a ha => ?_, fun l ob e => ?_⟩
  · by_cases h : a = p
    · subst h; rw [upd_same]; simp
    · rw [upd_ne h]; exact r.exd a ha
  · obtain ⟨as, h1, h2⟩ := r.obj l ob e
    refine ⟨as, h1, h2.keep k fun a ha => upd_ne fun e => ?_⟩
    subst e
    have hin : a ∈ (ρ.own a).ls.flatten := List.mem_flatten.mpr ⟨as, List.mem_of_getElem? h1, ha⟩
    have := (List.nodup_append.mp r.nd).2.2 a hin a (by simp [Rho.own])
    exact this rfl
/-- .. it is a value now -/
theorem Rep.unown {ρ : Rho} {H : Hp} {M : Mem} {p : Addr} (r : Rep K fa (ρ.own p) H M) : Rep K fa ρ H M ∧ ¬ mu ρ p := by
  have hp : ¬ mu ρ p := by
    have nd := r.nd
    simp only [Rho.own] at nd
    rw [List.nodup_append] at nd
    rintro (h | h)
    · exact nd.2.2 p h p (by simp) rfl
    · exact (List.nodup_cons.mp nd.2.1).1 h
  refine ⟨⟨r.len, ?_, fun a ha => r.exd a (by simp [Rho.own, ha]), fun l ob e => ?_⟩, hp⟩
  · have nd := r.nd
    simp only [Rho.own] at nd
    rw [List.nodup_append] at nd ⊢
    exact ⟨nd.1, (List.nodup_cons.mp nd.2.1).2, fun a ha b hb => nd.2.2 a ha b (by simp [hb])⟩
  · obtain ⟨as, h1, h2⟩ := r.obj l ob e
    exact ⟨as, h1, h2.keep (fun a u h n => ⟨h, fun h2 => n (mu_own.mpr (.inl h2))⟩) fun _ _ => rfl⟩
/-- .. it is a thing of the memory now -/
theorem Rep.layO {ρ : Rho} {H : Hp} {M : Mem} {p : Addr} {o : O} (r : Rep K fa (ρ.own p) H M) (ho : Ob K fa (mu (ρ.own p)) H o [p]) : Rep K fa ⟨ρ.ls ++ [[p]], ρ.ex⟩ H (M ++ [o]) := by
  have em : ∀ a, mu ⟨ρ.ls ++ [[p]], ρ.ex⟩ a ↔ mu (ρ.own p) a := fun a => by
    rw [mu_own]
    simp only [mu, List.flatten_append, List.mem_append, List.flatten_cons, List.flatten_nil, List.append_nil, List.mem_singleton]
    constructor
    · rintro ((h | h) | h)
      · exact .inl (.inl h)
      · exact .inr h
      · exact .inl (.inr h)
    · rintro ((h | h) | h)
      · exact .inl (.inl h)
      · exact .inr h
      · exact .inl (.inr h)
  have k : Kp (mu (ρ.own p)) (mu ⟨ρ.ls ++ [[p]], ρ.ex⟩) H H := fun a u h n => ⟨h, fun h2 => n ((em a).mp h2)⟩
  refine ⟨by simp [r.len.symm, Rho.own], ?_, fun a ha => r.exd a (by simp [Rho.own, ha]), fun l ob e => ?_⟩
  · have nd := r.nd
    simp only [Rho.own] at nd
    simp only [List.flatten_append, List.flatten_cons, List.flatten_nil, List.append_nil, List.append_assoc, List.singleton_append]
    exact nd
  · by_cases hl : l < M.length
    · rw [List.getElem?_append_left hl] at e
      obtain ⟨as, h1, h2⟩ := r.obj l ob e
      refine ⟨as, ?_, h2.keep k fun _ _ => rfl⟩
      show (ρ.ls ++ [[p]])[l]? = _
      rw [List.getElem?_append_left (by have := r.len; simp only [Rho.own] at this; omega)]
      exact h1
    · rw [List.getElem?_append_right (by omega)] at e
      have e0 : l - M.length = 0 := by
        rcases Nat.eq_zero_or_pos (l - M.length) with h | h
        · exact h
        · rw [List.getElem?_eq_none (by simp only [List.length_singleton]; omega)] at e; cases e
      rw [e0] at e
      simp only [List.getElem?_cons_zero, Option.some.injEq] at e
      subst e
      refine ⟨[p], ?_, ho.keep k fun _ _ => rfl⟩
      show (ρ.ls ++ [[p]])[l]? = _
      have := r.len
      simp only [Rho.own] at this
      rw [List.getElem?_append_right (by omega), show l - ρ.ls.length = 0 by omega]
      rfl
theorem Rep.lay {ρ : Rho} {H : Hp} {M : Mem} {p : Addr} {ds : List D} {vs : List V} (r : Rep K fa (ρ.own p) H M) (h : H p = some (.lst vs)) (rl : Rls K fa (mu (ρ.own p)) H ds vs) : Rep K fa ⟨ρ.ls ++ [[p]], ρ.ex⟩ H (M ++ [.lst ds]) :=
  r.layO ⟨p, vs, rfl, h, rl⟩
/-- a thing of the memory is changed -/
theorem Rep.changeG {ρ : Rho} {H : Hp} {M : Mem} (r : Rep K fa ρ H M) {l : Nat} {o : O} {a : Addr} {as : List Addr} (e : M[l]? = some o) (h1 : ρ.ls[l]? = some as) (hm : a ∈ as) {u : HO} {o' : O} (ho : Kp (mu ρ) (mu ρ) H (upd H a u) → Ob K fa (mu ρ) (upd H a u) o' as) :
    To ρ H ρ (upd H a u) ∧ Rep K fa ρ (upd H a u) (M.set l o') := by
  have hin : a ∈ ρ.ls.flatten := List.mem_flatten.mpr ⟨as, List.mem_of_getElem? h1, hm⟩
  have k : Kp (mu ρ) (mu ρ) H (upd H a u) := fun b u h n => ⟨by rw [upd_ne (fun e : b = a => n (by rw [e]; exact .inl hin))]; exact h, n⟩
  have nex : a ∉ ρ.ex := fun h => (List.nodup_append.mp r.nd).2.2 a hin a h rfl
  refine ⟨⟨k, Nat.le_refl _, fun _ _ as _ h => ⟨as, h, List.prefix_rfl⟩, rfl, fun b hb => upd_ne fun e => nex (e ▸ hb)⟩, by simp [r.len], r.nd, fun b hb => ?_, fun l' ob e' => ?_⟩
  · rw [upd_ne (fun e : b = a => nex (by rw [← e]; exact hb))]; exact r.exd b hb
  · by_cases hl : l' = l
    · subst hl
      have hlt : l' < M.length := (List.getElem?_eq_some_iff.mp e).1
      rw [List.getElem?_set_self hlt] at e'
      simp only [Option.some.injEq] at e'; subst e'
      exact ⟨as, h1, ho k⟩
    · rw [List.getElem?_set_ne (Ne.symm hl)] at e'
      obtain ⟨as', g1, g2⟩ := r.obj l' ob e'
      refine ⟨as', g1, g2.keep k fun b hb => upd_ne fun e => ?_⟩
      subst e
      exact hl (flat_one (List.nodup_append.mp r.nd).1 g1 h1 hb hm)
theorem Rep.changeO {ρ : Rho} {H : Hp} {M : Mem} (r : Rep K fa ρ H M) {l : Nat} {o : O} {a : Addr} (e : M[l]? = some o) (h1 : ρ.ls[l]? = some [a]) {u : HO} {o' : O} (ho : Kp (mu ρ) (mu ρ) H (upd H a u) → Ob K fa (mu ρ) (upd H a u) o' [a]) :
    To ρ H ρ (upd H a u) ∧ Rep K fa ρ (upd H a u) (M.set l o') := r.changeG e h1 (by simp) ho
/-- the addresses of one thing differ -/
theorem Rep.asNd {ρ : Rho} {H : Hp} {M : Mem} (r : Rep K fa ρ H M) {l : Nat} {as : List Addr} (h : ρ.ls[l]? = some as) : as.Nodup := by
  have h1 := (List.nodup_append.mp r.nd).1
  exact List.Nodup.sublist (List.sublist_flatten_of_mem (List.mem_of_getElem? h)) h1
/-- a list within a thing is changed -/
theorem Rep.changeI {ρ : Rho} {H : Hp} {M : Mem} (r : Rep K fa ρ H M) {l f : Nat} {ds ds' : List D} (e : getI M l f = some ds) :
    ∃ as a vs, ρ.ls[l]? = some as ∧ as[f + 1]? = some a ∧ H a = some (.lst vs) ∧ Rls K fa (mu ρ) H ds vs ∧ ∀ vs', Rls K fa (mu ρ) H ds' vs' → To ρ H ρ (upd H a (.lst vs')) ∧ Rep K fa ρ (upd H a (.lst vs')) (setI M l f ds') := by
  unfold getI at e
  cases hM : M[l]? with
  | none => rw [hM] at e; cases e
  | some o =>
    rw [hM] at e
    obtain ⟨as, h1, h2⟩ := r.obj l o hM
    have nd := r.asNd h1
    cases o with
    | ins sp rs =>
      simp only at e
      split at e
      · rename_i hf
        subst hf
        cases e
        obtain ⟨a, b, dx, v, vs, rfl, g1, g2, g3, g4⟩ := h2
        refine ⟨[a, b], b, vs, h1, rfl, g3, g4, fun vs' h4 => ?_⟩
        have hab : a ≠ b := by simp at nd; exact nd
        have := r.changeG (u := .lst vs') (o' := .ins sp ds') hM h1 (a := b) (by simp) fun k => ⟨a, b, dx, v, vs', rfl, by rw [upd_ne hab]; exact g1, g2.keep k, upd_same, h4.keep k⟩
        have es : setI M l 0 ds' = M.set l (.ins sp ds') := by simp only [setI, hM]
        rw [es]; exact this
      · cases e
    | lsts dss =>
      simp only at e
      obtain ⟨a, bs, rfl, g1, g2⟩ := h2
      obtain ⟨b, vs, k1, k2, k3⟩ := g2.get e
      rw [List.nodup_cons] at nd
      have hb : b ∈ bs := List.mem_of_getElem? k1
      have hab : a ≠ b := fun q => nd.1 (q ▸ hb)
      refine ⟨a :: bs, b, vs, h1, by simpa using k1, k2, k3, fun vs' h4 => ?_⟩
      have := r.changeG (u := .lst vs') (o' := .lsts (dss.set f ds')) hM h1 (a := b) (by simp [hb]) fun k => ⟨a, bs, rfl, by rw [upd_ne hab]; exact g1, Inn.set k upd_same h4 nd.2 (fun c _ hc => upd_ne hc) k1 g2⟩
      have es : setI M l f ds' = M.set l (.lsts (dss.set f ds')) := by simp only [setI, hM]
      rw [es]; exact this
    | _ => cases e
/-- a list of the memory is changed -/
theorem Rep.change {ρ : Rho} {H : Hp} {M : Mem} (r : Rep K fa ρ H M) {l : Nat} {ds ds' : List D} (e : M[l]? = some (.lst ds)) :
    ∃ a vs, ρ.ls[l]? = some [a] ∧ H a = some (.lst vs) ∧ Rls K fa (mu ρ) H ds vs ∧ ∀ vs', Rls K fa (mu ρ) H ds' vs' → To ρ H ρ (upd H a (.lst vs')) ∧ Rep K fa ρ (upd H a (.lst vs')) (M.set l (.lst ds')) := by
  obtain ⟨as, h1, a, vs, rfl, h2, h3⟩ := r.obj l _ e
  exact ⟨a, vs, h1, h2, h3, fun vs' h4 => r.changeO e h1 fun k => ⟨a, vs', rfl, upd_same, h4.keep k⟩⟩
end
end G

set_option Elab.async false
set_option linter.all false
set_option autoImplicit false
set_option maxRecDepth 100000
set_option maxHeartbeats 4000000
/-! Soundness, part 2: operators by values. -/
namespace G
open PySem PySem.Spec PyProof.Rows L2

section
variable (K : PySem.W.Frag) (fa : FW)
/-- a value as it shows now: the outermost thing may be one that changes -/
def Vw (m : Addr → Prop) (H : Hp) : D → V → Prop
  | .lst ds, v => ∃ a vs, v = .ref a ∧ H a = some (.lst vs) ∧ Rls K fa m H ds vs
  | .dct ks vs, v => ∃ a o xs kv vv, v = .ref a ∧ H a = some (oHO a o) ∧ Rls K fa m H ks kv ∧ Rls K fa m H vs vv ∧ DR fa a o ks kv vv xs
  | d, v => Rl K fa m H d v
variable {K fa}
theorem Rl.vw {m : Addr → Prop} {H : Hp} {d : D} {v : V} (h : Rl K fa m H d v) : Vw K fa m H d v := by
  cases d with
  | lst ds =>
    simp only [Rl] at h
    obtain ⟨a, vs, e, _, h1, h2⟩ := h
    exact ⟨a, vs, e, h1, h2⟩
  | dct ks vs =>
    simp only [Rl] at h
    obtain ⟨a, o, xs, kv, vv, e, _, h1, h2⟩ := h
    exact ⟨a, o, xs, kv, vv, e, h1, h2⟩
  | _ => exact h
theorem rf_ref {ρ : Rho} {H : Hp} {l f : Nat} {v : V} {as : List Addr} {a : Addr} (h : RlW K fa ρ H (.rf l f) v) (e : ρ.ls[l]? = some as) (e2 : as[f + 1]? = some a) : v = .ref a := by
  obtain ⟨b, rfl, _, h⟩ := h
  rcases h with h | ⟨bs, h, hb⟩
  · rw [e] at h; cases h; simp at e2
  · rw [e] at h; cases h
    rw [e2] at hb; cases hb; rfl
theorem RlW.vw {ρ : Rho} {H : Hp} {M : Mem} (r : Rep K fa ρ H M) {w : W} {v : V} {x : D} (h : RlW K fa ρ H w v) (e : asD M w = some x) : Vw K fa (mu ρ) H x v := by
  cases w with
  | d y => simp only [asD, Option.some.injEq] at e; subst e; exact Rl.vw h
  | r l =>
    simp only [asD] at e
    cases q : M[l]? with
    | none => rw [q] at e; simp at e
    | some o =>
      rw [q] at e
      obtain ⟨as, h1, h2⟩ := r.obj l o q
      cases o with
      | lst ds =>
        simp only [Option.some.injEq] at e; subst e
        obtain ⟨a, vs, rfl, h3, h4⟩ := h2
        exact ⟨a, vs, h.2 a [] h1, h3, h4⟩
      | dct kvs =>
        simp only [Option.some.injEq] at e; subst e
        obtain ⟨a, o, xs, kv, vv, rfl, h3, h4⟩ := h2
        exact ⟨a, o, xs, kv, vv, h.2 a [] h1, h3, h4⟩
      | lsts _ => simp at e
      | ins0 => simp at e
      | ins1 _ => simp at e
      | ins _ _ => simp at e
      | dead => simp at e
  | rf l f =>
    simp only [asD] at e
    cases q : getI M l f with
    | none => rw [q] at e; cases e
    | some ds =>
      rw [q] at e
      simp only [Option.some.injEq] at e; subst e
      obtain ⟨as, a, vs, h1, h2, h3, h4, _⟩ := r.changeI (ds' := []) q
      exact ⟨a, vs, rf_ref h h1 h2, h3, h4⟩
theorem Vw.same {m : Addr → Prop} {H H' : Hp} (s : Same H H') {d : D} {v : V} (h : Vw K fa m H d v) : Vw K fa m H' d v := by
  cases d with
  | lst ds =>
    obtain ⟨a, vs, e, h1, h2⟩ := h
    exact ⟨a, vs, e, s _ _ h1, h2.keep (.same s)⟩
  | dct ks vs =>
    obtain ⟨a, o, xs, kv, vv, e, h1, h2, h3, h4⟩ := h
    exact ⟨a, o, xs, kv, vv, e, s _ _ h1, h2.keep (.same s), h3.keep (.same s), h4⟩
  | _ => exact Rl.keep (.same s) h
end

/-! ### data -/
mutual
def toPy : D → PyData
  | .non => .none
  | .bl b => .bool b
  | .int i => .int i
  | .str z => .str ⟨z.toArray⟩
  | .tup ds => .tuple (toPys ds)
  | .ktup ds => .tuple (toPys ds)
  | .lst ds => .list (toPys ds)
  | .frz ds => .list (toPys ds)
  | .dct _ _ => .none
  | .dcf _ _ => .none
  | .fn _ => .none
def toPys : List D → List PyData
  | [] => []
  | d :: ds => toPy d :: toPys ds
end
mutual
def D.noE : D → Bool
  | .tup ds => D.noEs ds | .ktup ds => D.noEs ds | .lst ds => D.noEs ds | .frz ds => D.noEs ds
  | .dct _ _ => false | .dcf _ _ => false | .fn _ => false
  | .non => true | .bl _ => true | .int _ => true | .str _ => true
def D.noEs : List D → Bool
  | [] => true
  | x :: xs => D.noE x && D.noEs xs
end
section
variable {K : PySem.W.Frag} {fa : FW} {m : Addr → Prop} {H : Hp}
mutual
theorem Rl.dp : ∀ {d : D} {n : Nat} {v : V}, D.okd n d = true → Rl K fa m H d v → Dp K H v (toPy d)
  | .non, n, v, _, h => by simp only [Rl] at h; subst h; exact .non
  | .bl b, n, v, _, h => by simp only [Rl] at h; subst h; exact .bl b
  | .int i, n, v, _, h => by simp only [Rl] at h; subst h; exact .int i
  | .str z, n, v, _, h => by simp only [Rl] at h; subst h; exact .str _
  | .tup ds, 0, v, e, h => by simp [D.okd] at e
  | .tup ds, n + 1, v, e, h => by
    simp only [Rl] at h
    obtain ⟨a, vs, rfl, _, h1, h2⟩ := h
    exact .tup (.of h1) (Rls.dp (n := n) (by simpa [D.okd] using e) h2)
  | .ktup ds, 0, v, e, h => by simp [D.okd] at e
  | .ktup ds, n + 1, v, e, h => by
    simp only [Rl] at h
    obtain ⟨a, vs, rfl, h1, h2⟩ := h
    exact .tup (h1 H) (Rls.dp (n := n) (by simpa [D.okd] using e) h2)
  | .lst ds, 0, v, e, h => by simp [D.okd] at e
  | .lst ds, n + 1, v, e, h => by
    simp only [Rl] at h
    obtain ⟨a, vs, rfl, _, h1, h2⟩ := h
    exact .lst (.of h1) (Rls.dp (n := n) (by simpa [D.okd] using e) h2)
  | .frz ds, 0, v, e, h => by simp [D.okd] at e
  | .frz ds, n + 1, v, e, h => by
    simp only [Rl] at h
    obtain ⟨a, vs, rfl, h1, h2⟩ := h
    refine .lst (ds := toPys ds) (xs := vs) ?_ (Rls.dp (n := n) (by simpa [D.okd] using e) h2)
    rcases h1 with ⟨o, _, h1⟩ | h1
    · exact .inl (.inr ⟨o, h1⟩)
    · exact h1 H
  | .dct _ _, n, v, e, h => by cases n <;> simp [D.okd] at e
  | .dcf _ _, n, v, e, h => by cases n <;> simp [D.okd] at e
  | .fn _, n, v, e, h => by cases n <;> simp [D.okd] at e
theorem Rls.dp : ∀ {ds : List D} {n : Nat} {vs : List V}, (∀ x ∈ ds, D.okd n x = true) → Rls K fa m H ds vs → DpAll K H vs (toPys ds)
  | [], n, vs, _, h => by rw [h.nil]; exact .nil
  | d :: ds, n, vs, e, h => by
    obtain ⟨v, r, rfl, h1, h2⟩ := h.uncons
    exact .cons (Rl.dp (e d (by simp)) h1) (Rls.dp (fun x hx => e x (by simp [hx])) h2)
end
theorem Vw.dp {d : D} {n : Nat} {v : V} (e : D.okd n d = true) (h : Vw K fa m H d v) : Dp K H v (toPy d) := by
  cases d with
  | lst ds =>
    cases n with
    | zero => simp [D.okd] at e
    | succ n =>
      obtain ⟨a, vs, rfl, h1, h2⟩ := h
      exact .lst (.of h1) (Rls.dp (n := n) (by simpa [D.okd] using e) h2)
  | dct ks vs => cases n <;> simp [D.okd] at e
  | _ => exact Rl.dp (fa := fa) (m := m) e h
end
mutual
theorem lay_of : ∀ {d : D} {n : Nat}, D.okd n d = true → (toPy d).canLay0 = true ∧ (toPy d).depth ≤ n
  | .non, n, _ => by simp [toPy, PyData.canLay0, PyData.depth]
  | .bl b, n, _ => by simp [toPy, PyData.canLay0, PyData.depth]
  | .int i, n, _ => by simp [toPy, PyData.canLay0, PyData.depth]
  | .str z, n, e => by
    have e' : (z.all fun c => decide (c < 1114112)) = true := by cases n <;> simpa [D.okd] using e
    simp only [toPy, PyData.canLay0, PyData.depth, PyData.strOk, Nat.zero_le, and_true]
    simpa using e'
  | .tup ds, 0, e => by simp [D.okd] at e
  | .ktup ds, 0, e => by simp [D.okd] at e
  | .lst ds, 0, e => by simp [D.okd] at e
  | .frz ds, 0, e => by simp [D.okd] at e
  | .tup ds, n + 1, e => by
    have := lay_all (n := n) (ds := ds) (by simpa [D.okd] using e)
    simp only [toPy, PyData.canLay0, PyData.depth]; exact ⟨this.1, by omega⟩
  | .ktup ds, n + 1, e => by
    have := lay_all (n := n) (ds := ds) (by simpa [D.okd] using e)
    simp only [toPy, PyData.canLay0, PyData.depth]; exact ⟨this.1, by omega⟩
  | .lst ds, n + 1, e => by
    have := lay_all (n := n) (ds := ds) (by simpa [D.okd] using e)
    simp only [toPy, PyData.canLay0, PyData.depth]; exact ⟨this.1, by omega⟩
  | .frz ds, n + 1, e => by
    have := lay_all (n := n) (ds := ds) (by simpa [D.okd] using e)
    simp only [toPy, PyData.canLay0, PyData.depth]; exact ⟨this.1, by omega⟩
  | .dct _ _, n, e => by cases n <;> simp [D.okd] at e
  | .dcf _ _, n, e => by cases n <;> simp [D.okd] at e
  | .fn _, n, e => by cases n <;> simp [D.okd] at e
theorem lay_all : ∀ {ds : List D} {n : Nat}, (∀ x ∈ ds, D.okd n x = true) → PyData.canLayAll0 (toPys ds) = true ∧ PyData.depthAll (toPys ds) ≤ n
  | [], n, _ => by simp [toPys, PyData.canLayAll0, PyData.depthAll]
  | d :: ds, n, e => by
    have h1 := lay_of (e d (by simp))
    have h2 := lay_all (n := n) (ds := ds) (fun x hx => e x (by simp [hx]))
    simp only [toPys, PyData.canLayAll0, PyData.depthAll, h1.1, h2.1, Bool.and_self, true_and]
    omega
end
theorem shaped_of {d : D} (e : d.dat = true) : SeqAt.shaped (toPy d) = true := by
  have := lay_of (n := 50) e
  simp only [SeqAt.shaped, this.1, Bool.true_and, decide_eq_true_eq]
  omega
theorem arr_beq (a b : List Nat) : ((⟨a.toArray⟩ : Str) == ⟨b.toArray⟩) = (a == b) := by
  by_cases h : a = b
  · subst h; simp
  · have : ¬ ((⟨a.toArray⟩ : Str) = ⟨b.toArray⟩) := fun e => h (by simpa using congrArg (fun s : Str => s.cps.toList) e)
    rw [beq_eq_false_iff_ne.mpr h]
    exact beq_eq_false_iff_ne.mpr this
mutual
theorem eqv_py : ∀ (a b : D), a.noE = true → b.noE = true → PyData.eqv (toPy a) (toPy b) = D.eqv a b
  | .non, b, _, _ => by cases b <;> simp_all [toPy, PyData.eqv, D.eqv, D.noE]
  | .bl x, b, _, _ => by cases b <;> simp_all [toPy, PyData.eqv, D.eqv, D.noE]
  | .int x, b, _, _ => by cases b <;> simp_all [toPy, PyData.eqv, D.eqv, D.noE]
  | .str x, b, _, _ => by cases b <;> simp_all [toPy, PyData.eqv, D.eqv, D.noE, arr_beq]
  | .tup xs, b, h, g => by
    cases b <;> simp only [toPy, PyData.eqv, D.eqv] <;> simp only [D.noE] at h g <;> first | exact eqvs_py xs _ h g | simp at g
  | .ktup xs, b, h, g => by
    cases b <;> simp only [toPy, PyData.eqv, D.eqv] <;> simp only [D.noE] at h g <;> first | exact eqvs_py xs _ h g | simp at g
  | .lst xs, b, h, g => by
    cases b <;> simp only [toPy, PyData.eqv, D.eqv] <;> simp only [D.noE] at h g <;> first | exact eqvs_py xs _ h g | simp at g
  | .frz xs, b, h, g => by
    cases b <;> simp only [toPy, PyData.eqv, D.eqv] <;> simp only [D.noE] at h g <;> first | exact eqvs_py xs _ h g | simp at g
  | .dct _ _, _, h, _ => by simp [D.noE] at h
  | .dcf _ _, _, h, _ => by simp [D.noE] at h
  | .fn _, _, h, _ => by simp [D.noE] at h
theorem eqvs_py : ∀ (a b : List D), D.noEs a = true → D.noEs b = true → PyData.eqvAll (toPys a) (toPys b) = D.eqvs a b
  | [], [], _, _ => by simp [toPys, PyData.eqvAll, D.eqvs]
  | [], y :: ys, _, _ => by simp [toPys, PyData.eqvAll, D.eqvs]
  | x :: xs, [], _, _ => by simp [toPys, PyData.eqvAll, D.eqvs]
  | x :: xs, y :: ys, h, g => by
    simp only [D.noEs, Bool.and_eq_true] at h g
    simp only [toPys, PyData.eqvAll, D.eqvs, eqv_py x y h.1 g.1, eqvs_py xs ys h.2 g.2]
end
mutual
theorem noE_of : ∀ {d : D} {n : Nat}, D.okd n d = true → d.noE = true
  | .non, n, _ => by simp [D.noE]
  | .bl b, n, _ => by simp [D.noE]
  | .int i, n, _ => by simp [D.noE]
  | .str z, n, e => by simp [D.noE]
  | .tup ds, 0, e => by simp [D.okd] at e
  | .ktup ds, 0, e => by simp [D.okd] at e
  | .lst ds, 0, e => by simp [D.okd] at e
  | .frz ds, 0, e => by simp [D.okd] at e
  | .tup ds, n + 1, e => by simp only [D.noE]; exact noEs_of (n := n) (ds := ds) (by simpa [D.okd] using e)
  | .ktup ds, n + 1, e => by simp only [D.noE]; exact noEs_of (n := n) (ds := ds) (by simpa [D.okd] using e)
  | .lst ds, n + 1, e => by simp only [D.noE]; exact noEs_of (n := n) (ds := ds) (by simpa [D.okd] using e)
  | .frz ds, n + 1, e => by simp only [D.noE]; exact noEs_of (n := n) (ds := ds) (by simpa [D.okd] using e)
  | .dct _ _, n, e => by cases n <;> simp [D.okd] at e
  | .dcf _ _, n, e => by cases n <;> simp [D.okd] at e
  | .fn _, n, e => by cases n <;> simp [D.okd] at e
theorem noEs_of : ∀ {ds : List D} {n : Nat}, (∀ x ∈ ds, D.okd n x = true) → D.noEs ds = true
  | [], n, _ => by simp [D.noEs]
  | d :: ds, n, e => by
    simp only [D.noEs, Bool.and_eq_true]
    exact ⟨noE_of (e d (by simp)), noEs_of (n := n) (fun x hx => e x (by simp [hx]))⟩
end
end G

set_option Elab.async false
set_option linter.all false
set_option autoImplicit false
set_option maxRecDepth 100000
set_option maxHeartbeats 4000000
/-! Soundness, part D: dicts by their own object. -/
namespace G
open PySem PySem.Spec PyProof.Rows L2

theorem nks_map : ∀ ds : List D, nks ds = ds.map nk
  | [] => by simp [nks]
  | d :: ds => by simp [nks, nks_map ds]
section
variable {X : Cx} {fa : FW} {pins : List (Addr × Obj)} {σ : L2.St} {H : Hp} {s : Shared} {m : Addr → Prop}
mutual
/-- a key as it lies -/
theorem Rl.nested (I : Inv X pins σ H s) : ∀ {x : D} {n : Nat} {v : V} {u : Value}, D.keyd n x = true → Rl X.K fa m H x v → RelV v u → NestedIs s.heap (nk x) u ∧ (nk x).depth ≤ n
  | .non, n, v, u, _, h, r => by
    simp only [Rl] at h; subst h; cases r
    exact ⟨by simp only [nk]; exact .none, by simp [nk, NestedKey.depth]⟩
  | .int i, n, v, u, _, h, r => by
    simp only [Rl] at h; subst h; obtain ⟨t, rfl⟩ := r
    exact ⟨by simp only [nk]; exact .int _ _, by simp [nk, NestedKey.depth]⟩
  | .str z, n, v, u, _, h, r => by
    simp only [Rl] at h; subst h; obtain ⟨t, rfl⟩ := r
    exact ⟨by simp only [nk]; exact .text _ _, by simp [nk, NestedKey.depth]⟩
  | .tup ds, 0, v, u, e, h, r => by simp [D.keyd] at e
  | .tup ds, n + 1, v, u, e, h, r => by
    simp only [Rl] at h
    obtain ⟨a, vs, rfl, _, h1, h2⟩ := h
    cases r
    obtain ⟨its, rv, ⟨o, ho, hc, k, hd⟩, _⟩ := I.tuple (.of h1)
    obtain ⟨g1, g2⟩ := Rls.nested I (n := n) (by simpa [D.keyd] using e) h2 rv
    refine ⟨?_, ?_⟩
    · simp only [nk]
      exact .tup ho hc hd (by simpa using g1)
    · simp only [nk, NestedKey.depth]; omega
  | .bl _, n, v, u, e, _, _ => by cases n <;> simp [D.keyd] at e
  | .ktup _, n, v, u, e, _, _ => by cases n <;> simp [D.keyd] at e
  | .lst _, n, v, u, e, _, _ => by cases n <;> simp [D.keyd] at e
  | .frz _, n, v, u, e, _, _ => by cases n <;> simp [D.keyd] at e
  | .dct _ _, n, v, u, e, _, _ => by cases n <;> simp [D.keyd] at e
  | .dcf _ _, n, v, u, e, _, _ => by cases n <;> simp [D.keyd] at e
  | .fn _, n, v, u, e, _, _ => by cases n <;> simp [D.keyd] at e
theorem Rls.nested (I : Inv X pins σ H s) : ∀ {xs : List D} {n : Nat} {vs : List V} {us : List Value}, (∀ x ∈ xs, D.keyd n x = true) → Rls X.K fa m H xs vs → Vals vs us → NestedAll s.heap (nks xs) us ∧ NestedKey.depthAll (nks xs) ≤ n
  | [], n, vs, us, _, h, r => by
    rw [h.nil] at r; cases r
    exact ⟨by simp only [nks]; exact .nil, by simp [nks, NestedKey.depthAll]⟩
  | x :: xs, n, vs, us, e, h, r => by
    obtain ⟨v, vr, rfl, h1, h2⟩ := h.uncons
    cases r with
    | cons r1 r2 =>
      obtain ⟨g1, g2⟩ := Rl.nested I (e x (by simp)) h1 r1
      obtain ⟨g3, g4⟩ := Rls.nested I (n := n) (fun y hy => e y (by simp [hy])) h2 r2
      refine ⟨by simp only [nks]; exact .cons g1 g3, ?_⟩
      simp only [nks, NestedKey.depthAll]; omega
end
theorem key_keyd {x : D} (h : x.key = true) : D.keyd 6 x = true := by
  cases x <;> simp only [D.key, Bool.false_eq_true] at h
  simpa [D.keyd] using h
/-- a key's tuple is a key of the kind -/
theorem key_is (I : Inv X pins σ H s) {x : D} {a : Addr} (h : x.key = true) (r : Rl X.K fa m H x (.ref a)) : (nestedKind X.prog X.w).is s.heap (nk x) a := by
  obtain ⟨g1, g2⟩ := Rl.nested I (key_keyd h) r (u := .ref a) rfl
  exact ⟨g1, by omega⟩
theorem key_ref {x : D} {v : V} (h : x.key = true) (r : Rl X.K fa m H x v) : ∃ a, v = .ref a := by
  cases x <;> simp only [D.key, Bool.false_eq_true] at h
  simp only [Rl] at r
  obtain ⟨a, _, rfl, _⟩ := r
  exact ⟨a, rfl⟩
theorem inv_o {a : Addr} {o : Obj} (I : Inv X pins σ H s) (h : H a = some (oHO a o)) : s.heap.get? a = some o := (I.hok a _ h).1
theorem oHO_ok {P : Program} {w : World} {H : Hp} {h : Heap} {a : Addr} {o : Obj} (e : h.get? a = some o) : ObjOk P w H h a (G.oHO a o) := ⟨e, ⟨o, e⟩, fun h1 h2 h3 h4 => h4 o h3⟩
theorem rls_keys : ∀ {ks : List D} {xs : List (NestedKey × Addr × Value)} {kv : List V}, Rls X.K fa m H ks kv → kv = xs.map (fun x => .ref x.2.1) → xs.map (·.1) = ks.map nk → (∀ k ∈ ks, k.key = true) → Inv X pins σ H s → ∀ x ∈ xs, (nestedKind X.prog X.w).is s.heap x.1 x.2.1
  | [], [], _, _, _, _, _, _ => by simp
  | [], _ :: _, _, _, _, h, _, _ => by simp at h
  | _ :: _, [], _, _, _, h, _, _ => by simp at h
  | k :: ks, x :: xs, kv, r, ek, en, hk, I => by
    obtain ⟨v, vr, rfl, r1, r2⟩ := r.uncons
    simp only [List.map_cons, List.cons.injEq] at ek en
    intro y hy
    rcases List.mem_cons.mp hy with e | e
    · subst e
      rw [en.1]
      refine key_is (fa := fa) (m := m) I (hk k (by simp)) ?_
      rw [← ek.1]; exact r1
    · exact rls_keys r2 ek.2 en.2 (fun z hz => hk z (by simp [hz])) I y e
theorem dict_of (hp : fa.p = X.prog) (hw : fa.w = X.w) (I : Inv X pins σ H s) {a : Addr} {o : Obj} {ks : List D} {kv vv : List V} {xs : List (NestedKey × Addr × Value)} (h : H a = some (G.oHO a o)) (rk : Rls X.K fa m H ks kv) (d : DR fa a o ks kv vv xs) : s.heap.DictOfH (nestedKind X.prog X.w) a xs := by
  obtain ⟨f, p, w, cc⟩ := fa
  simp only at hp hw; subst hp hw
  obtain ⟨es, ep, e1, e2⟩ := d.dat
  exact ⟨o, es, ep, inv_o I h, d.ex, e1, e2, rls_keys rk d.ad d.ks d.key I, d.nd⟩
end

/-! ### equality of keys -/
mutual
theorem nk_beq : ∀ {a b : D} {n k : Nat}, D.keyd n a = true → D.keyd k b = true → NestedKey.beq (nk a) (nk b) = D.eqv a b
  | .non, b, n, k, _, h => by
    cases b with
    | non => simp [nk, NestedKey.beq, D.eqv]
    | int _ => simp [nk, NestedKey.beq, D.eqv]
    | str _ => simp [nk, NestedKey.beq, D.eqv]
    | tup _ => simp [nk, NestedKey.beq, D.eqv]
    | _ => cases k <;> simp [D.keyd] at h
  | .int i, b, n, k, _, h => by
    cases b with
    | non => simp [nk, NestedKey.beq, D.eqv]
    | int _ => simp only [nk, NestedKey.beq, D.eqv] <;> rfl
    | str _ => simp [nk, NestedKey.beq, D.eqv]
    | tup _ => simp [nk, NestedKey.beq, D.eqv]
    | _ => cases k <;> simp [D.keyd] at h
  | .str i, b, n, k, _, h => by
    cases b with
    | non => simp [nk, NestedKey.beq, D.eqv]
    | int _ => simp [nk, NestedKey.beq, D.eqv]
    | str z =>
      simp only [nk, NestedKey.beq, D.eqv]
      rw [← arr_beq] <;> rfl
    | tup _ => simp [nk, NestedKey.beq, D.eqv]
    | _ => cases k <;> simp [D.keyd] at h
  | .tup ds, b, 0, k, e, _ => by simp [D.keyd] at e
  | .tup ds, b, n + 1, k, e, h => by
    cases b with
    | non => simp [nk, NestedKey.beq, D.eqv]
    | int _ => simp [nk, NestedKey.beq, D.eqv]
    | str _ => simp [nk, NestedKey.beq, D.eqv]
    | tup es =>
      cases k with
      | zero => simp [D.keyd] at h
      | succ k =>
        simp only [nk, NestedKey.beq, D.eqv]
        exact nks_beq (n := n) (k := k) (by simpa [D.keyd] using e) (by simpa [D.keyd] using h)
    | _ => cases k <;> simp [D.keyd] at h
  | .bl _, _, n, k, e, _ => by cases n <;> simp [D.keyd] at e
  | .ktup _, _, n, k, e, _ => by cases n <;> simp [D.keyd] at e
  | .lst _, _, n, k, e, _ => by cases n <;> simp [D.keyd] at e
  | .frz _, _, n, k, e, _ => by cases n <;> simp [D.keyd] at e
  | .dct _ _, _, n, k, e, _ => by cases n <;> simp [D.keyd] at e
  | .dcf _ _, _, n, k, e, _ => by cases n <;> simp [D.keyd] at e
  | .fn _, _, n, k, e, _ => by cases n <;> simp [D.keyd] at e
theorem nks_beq : ∀ {as bs : List D} {n k : Nat}, (∀ x ∈ as, D.keyd n x = true) → (∀ x ∈ bs, D.keyd k x = true) → NestedKey.beqAll (nks as) (nks bs) = D.eqvs as bs
  | [], [], _, _, _, _ => by simp [nks, NestedKey.beqAll, D.eqvs]
  | [], _ :: _, _, _, _, _ => by simp [nks, NestedKey.beqAll, D.eqvs]
  | _ :: _, [], _, _, _, _ => by simp [nks, NestedKey.beqAll, D.eqvs]
  | a :: as, b :: bs, n, k, h, g => by
    simp only [nks, NestedKey.beqAll, D.eqvs]
    rw [nk_beq (h a (by simp)) (g b (by simp)), nks_beq (n := n) (k := k) (fun x hx => h x (by simp [hx])) (fun x hx => g x (by simp [hx]))]
end
theorem nk_eq {a b : D} (h : a.key = true) (g : b.key = true) : decide (nk a = nk b) = D.eqv a b := by
  rw [NestedKey.decide_eq]; exact nk_beq (key_keyd h) (key_keyd g)
theorem atKey_look {k : D} (hk : k.key = true) : ∀ {ks : List D} {xs : List (NestedKey × Addr × Value)}, xs.map (·.1) = ks.map nk → (∀ a ∈ ks, a.key = true) → (atKey xs (nk k)).isSome = ks.any fun a => D.eqv a k
  | [], [], _, _ => by simp [atKey]
  | [], _ :: _, h, _ => by simp at h
  | _ :: _, [], h, _ => by simp at h
  | a :: ks, x :: xs, h, g => by
    simp only [List.map_cons, List.cons.injEq] at h
    have ih := atKey_look hk h.2 fun z hz => g z (by simp [hz])
    have e := nk_eq (g a (by simp)) hk
    simp only [atKey] at ih ⊢
    rw [List.find?_cons, h.1]
    simp only [List.any_cons, ← e]
    cases q : decide (nk a = nk k) with
    | true => simp
    | false => simp only [Bool.false_or]; exact ih
theorem atKey_get {K : PySem.W.Frag} {fa : FW} {m : Addr → Prop} {H : Hp} {k r : D} (hk : k.key = true) : ∀ {ks vs : List D} {xs : List (NestedKey × Addr × Value)} {vv : List V}, xs.map (·.1) = ks.map nk → (∀ a ∈ ks, a.key = true) → Rls K fa m H vs vv → Vals vv (xs.map (·.2.2)) → lookD k ks vs = some r →
    ∃ p v, atKey xs (nk k) = some p ∧ RelV v p.2 ∧ Rl K fa m H r v
  | [], vs, xs, vv, _, _, _, _, e => by simp [lookD] at e
  | a :: ks, [], xs, vv, _, _, _, _, e => by simp [lookD] at e
  | a :: ks, b :: vs, [], vv, h, _, _, _, _ => by simp at h
  | a :: ks, b :: vs, x :: xs, vv, h, g, rl, rv, e => by
    simp only [List.map_cons, List.cons.injEq] at h
    obtain ⟨v, vr, rfl, r1, r2⟩ := rl.uncons
    simp only [List.map_cons] at rv
    cases rv with
    | cons q1 q2 =>
      have en := nk_eq (g a (by simp)) hk
      simp only [lookD] at e
      simp only [atKey]
      rw [List.find?_cons, h.1]
      split at e
      · rename_i hq
        rw [hq] at en
        simp only [Option.some.injEq] at e; subst e
        rw [en]
        exact ⟨x.2, v, rfl, q1, r1⟩
      · rename_i hq
        have hq' : decide (nk a = nk k) = false := by rw [en]; simpa using hq
        rw [hq']
        exact atKey_get hk h.2 (fun z hz => g z (by simp [hz])) r2 q2 e
/-- d[k] = v on the keys and values -/
theorem putD_new {k v : D} : ∀ {kvs : List (D × D)}, (kvs.map (·.1)).any (fun a => D.eqv a k) = false → putD k v kvs = kvs ++ [(k, v)]
  | [], _ => rfl
  | (a, b) :: r, h => by
    simp only [List.map_cons, List.any_cons, Bool.or_eq_false_iff] at h
    simp only [putD, h.1, Bool.false_eq_true, if_false, putD_new h.2, List.cons_append]
theorem putD_len {k v : D} : ∀ {kvs : List (D × D)}, (kvs.map (·.1)).any (fun a => D.eqv a k) = true → (putD k v kvs).length = kvs.length
  | [], h => by simp at h
  | (a, b) :: r, h => by
    simp only [putD]
    split
    · simp
    · rename_i hn
      simp only [List.map_cons, List.any_cons] at h
      have : D.eqv a k = false := by simpa using hn
      rw [this, Bool.false_or] at h
      simp [putD_len h]
section
variable {K : PySem.W.Frag} {fa : FW} {m : Addr → Prop} {H : Hp}
theorem put_old {k v : D} {w : V} {u : Value} (hk : k.key = true) (rv : Rl K fa m H v w) (ru : RelV w u) : ∀ {kvs : List (D × D)} {xs : List (NestedKey × Addr × Value)} {vv : List V}, xs.map (·.1) = (kvs.map (·.1)).map nk → (∀ a ∈ kvs.map (·.1), a.key = true) → (xs.map (·.1)).Nodup →
    Rls K fa m H (kvs.map (·.2)) vv → Vals vv (xs.map (·.2.2)) → (kvs.map (·.1)).any (fun a => D.eqv a k) = true →
    (putD k v kvs).map (·.1) = kvs.map (·.1) ∧ ∃ vv', Rls K fa m H ((putD k v kvs).map (·.2)) vv' ∧ Vals vv' ((xs.map (putAt (nk k) u)).map (·.2.2))
  | [], _, _, _, _, _, _, _, h => by simp at h
  | (a, b) :: r, [], _, h, _, _, _, _, _ => by simp at h
  | (a, b) :: r, x :: xs, vv, h, g, nd, rl, vl, hh => by
    simp only [List.map_cons, List.cons.injEq] at h
    simp only [List.map_cons, List.nodup_cons] at nd
    simp only [List.map_cons] at rl vl
    obtain ⟨v0, vr, rfl, r1, r2⟩ := rl.uncons
    cases vl with
    | cons q1 q2 =>
      have en := nk_eq (g a (by simp)) hk
      simp only [putD]
      split
      · rename_i hq
        rw [hq] at en
        have e1 : nk a = nk k := of_decide_eq_true en
        refine ⟨by simp, w :: vr, .cons rv r2, ?_⟩
        have e2 : xs.map (putAt (nk k) u) = xs := map_putAt_of_not_mem xs (nk k) u (by rw [← e1, ← h.1]; exact nd.1)
        rw [List.map_cons, List.map_cons, e2]
        have e3 : putAt (nk k) u x = (x.1, x.2.1, u) := by simp only [putAt]; rw [if_pos (by rw [h.1, e1])]
        rw [e3]
        exact .cons ru q2
      · rename_i hq
        have hq' : D.eqv a k = false := by simpa using hq
        rw [hq'] at en
        have e1 : nk a ≠ nk k := of_decide_eq_false en
        simp only [List.map_cons, List.any_cons, hq', Bool.false_or] at hh
        obtain ⟨i1, vv', i2, i3⟩ := put_old hk rv ru h.2 (fun z hz => g z (by simp [hz])) nd.2 r2 q2 hh
        refine ⟨by simp [i1], v0 :: vv', .cons r1 i2, ?_⟩
        rw [List.map_cons, List.map_cons]
        have e3 : putAt (nk k) u x = x := by simp only [putAt]; rw [if_neg (by rw [h.1]; exact e1)]
        rw [e3]
        exact .cons q1 i3
theorem refs_put {k : NestedKey} {u : Value} (xs : List (NestedKey × Addr × Value)) : (xs.map (putAt k u)).map (fun x => V.ref x.2.1) = xs.map fun x => V.ref x.2.1 := by
  rw [List.map_map]
  congr 1
  funext x
  simp only [Function.comp, putAt]
  split <;> rfl
end
section
variable {X : Cx} {fa : FW} {pins : List (Addr × Obj)} {σ : L2.St} {H : Hp} {s : Shared} {ρ : Rho} {M : Mem}
theorem room8 {P : Program} {w : World} {A : Around} (hu : A.units + 65 < cLine) : (nestedKind P w).room A.in1 := by
  show A.in1.units + 8 < cLine
  rw [Around.in1_units]; omega
/-- d[k] = v -/
theorem dset {E : Value → Shared → Prop} {Q : Unit → Shared → Prop} (hp : fa.p = X.prog) (hw : fa.w = X.w) (hu : X.A.units + 65 < cLine) (I : Inv X pins σ H s) (rp : Rep X.K fa ρ H M) {l : Nat} {kvs : List (D × D)} (e : M[l]? = some (.dct kvs)) {d : V} (rd : RlW X.K fa ρ H (.r l) d)
    {k v : D} (hk : k.key = true) (hz : kvs.length < line) {b : Addr} (rk : Rl X.K fa (mu ρ) H k (.ref b)) {w : V} {u : Value} (rv : Rl X.K fa (mu ρ) H v w) (ru : RelV w u)
    (q : ∀ H' s', Inv X pins σ H' s' → To ρ H ρ H' → Rep X.K fa ρ H' (M.set l (.dct (putD k v kvs))) → Q () s') : ∃ a, d = .ref a ∧ wpAny (model X.prog X.w) X.A (setItem (.ref a) (.ref b) u) Q E s := by
  obtain ⟨as, g1, a, o, xs, kv, vv, rfl, g2, g3, g4, g5⟩ := rp.obj l _ e
  refine ⟨a, rd.2 a [] g1, ?_⟩
  have hl : xs.length = kvs.length := by have := congrArg List.length g5.ks; simpa using this
  have hzs : xs.length < sizeLine := by rw [hl]; exact Nat.lt_of_lt_of_le hz (by decide)
  refine wpAny_setItem_heap (hsz := Nat.le_of_lt hzs) (show (nestedKind X.prog X.w).room X.A.in1 from room8 hu) (key_is I hk rk) (dict_of hp hw I g2 g3 g5) fun h' hm hs => ?_
  obtain ⟨o', es, ep, f1, f2, f3, f4, f5, f6⟩ := hm
  have mH : L2.Mut (H a) := by rw [g2]; exact True.intro
  have I' : Inv X pins σ (upd H a (oHO a o')) { s with heap := h', toks := s.toks + (nestedKind X.prog X.w).draws (nk k) } :=
    I.write (x := a) (e := a) mH (.inl rfl) (fun c z hc hz => (hs.2 c hc).trans hz) ⟨o', f1⟩ (oHO_ok f1)
  have hdat : ∃ es ep, o'.data = .dict es ep ∧ es.toList = (storedH xs (nk k) b u).map (entryOfKey (nestedKind fa.p fa.w)) := by
    obtain ⟨f, p, w, cc⟩ := fa
    simp only at hp hw; subst hp hw
    exact ⟨es, ep, f3, f4⟩
  have hany := atKey_look hk g5.ks g5.key
  have ob : Kp (mu ρ) (mu ρ) H (upd H a (oHO a o')) → Ob X.K fa (mu ρ) (upd H a (oHO a o')) (.dct (putD k v kvs)) [a] := by
    intro kk
    cases q2 : (kvs.map (·.1)).any (fun a => D.eqv a k) with
    | false =>
      rw [q2] at hany
      have hn : atKey xs (nk k) = none := by cases h3 : atKey xs (nk k) with
        | none => rfl
        | some p => rw [h3] at hany; cases hany
      rw [storedH_new hn] at hdat f6
      refine ⟨a, o', xs ++ [(nk k, b, u)], kv ++ [.ref b], vv ++ [w], rfl, upd_same, ?_, ?_, ?_⟩
      · rw [putD_new q2]
        simp only [List.map_append, List.map_cons, List.map_nil]
        exact (g3.append (.one rk)).keep kk
      · rw [putD_new q2]
        simp only [List.map_append, List.map_cons, List.map_nil]
        exact (g4.append (.one rv)).keep kk
      · rw [putD_new q2]
        refine ⟨g5.sys, f2, hdat, ?_, ?_, ?_, ?_, f6, ?_⟩
        · intro z hz
          simp only [List.map_append, List.map_cons, List.map_nil, List.mem_append, List.mem_singleton] at hz
          rcases hz with hz | hz
          · exact g5.key z hz
          · subst hz; exact hk
        · simp only [List.map_append, List.map_cons, List.map_nil, g5.ks]
        · simp only [List.map_append, List.map_cons, List.map_nil, g5.ad]
        · simp only [List.map_append, List.map_cons, List.map_nil]
          exact g5.vs.append (.cons ru .nil)
        · simp only [List.length_append, List.length_singleton]; omega
    | true =>
      rw [q2] at hany
      obtain ⟨p, hp2⟩ : ∃ p, atKey xs (nk k) = some p := by cases h3 : atKey xs (nk k) with
        | none => rw [h3] at hany; cases hany
        | some p => exact ⟨p, rfl⟩
      rw [storedH_old hp2] at hdat f6
      obtain ⟨i1, vv', i2, i3⟩ := put_old hk rv ru g5.ks g5.key g5.nd g4 g5.vs q2
      refine ⟨a, o', xs.map (putAt (nk k) u), kv, vv', rfl, upd_same, ?_, i2.keep kk, ?_⟩
      · rw [i1]; exact g3.keep kk
      · refine ⟨g5.sys, f2, hdat, ?_, ?_, ?_, i3, f6, ?_⟩
        · rw [i1]; exact g5.key
        · rw [i1, keys_map_putAt]; exact g5.ks
        · rw [refs_put]; exact g5.ad
        · simp only [List.length_map]; omega
  exact q _ _ I' (rp.changeO e g1 ob).1 (rp.changeO e g1 ob).2
end
end G

set_option Elab.async false
set_option linter.all false
set_option autoImplicit false
set_option maxRecDepth 100000
set_option maxHeartbeats 4000000
/-! Soundness: a tuple once, a tuple no times. -/
namespace G
open PySem PySem.Spec PyProof.Rows L2

theorem tup_once (l : Addr) (items : Array Value) (n : Nat) (dd : Option Addr) (sl : Array (Option Value)) (u : Tok) :
    Meets (Builtin.«tuple.__mul__» ⟨[.ref l, .int 1 u], []⟩) (fun _ R s => s.heap.get? l = some { cls := .type "tuple", dict := dd, data := .seq items n, slots := sl } ∧ R (.ok (.ret (.ref l))) s) :=
  .of_wp fun prog w A R s h => by
    obtain ⟨hp, g, d, tk, os⟩ := s
    obtain ⟨hl, h⟩ := h
    have f1 := AutoSeq1.idx_int
    wp_walk using wpAny_loadPart' hl
    repeat (first
      | (refine wpAny_ite_false (by decide) ?_; wp_walk using wpAny_loadPart' hl)
      | (refine wpAny_ite_true (by simp) ?_; wp_walk using wpAny_loadPart' hl))
    first | exact ⟨_, rfl, h⟩ | skip
theorem tup_none (l : Addr) (items : Array Value) (n : Nat) (dd : Option Addr) (sl : Array (Option Value)) (u : Tok) (hi : items.isEmpty = false) :
    Meets (Builtin.«tuple.__mul__» ⟨[.ref l, .int 0 u], []⟩) (fun _ R s => s.heap.get? l = some { cls := .type "tuple", dict := dd, data := .seq items n, slots := sl } ∧
      R (.ok (.ret (.ref s.heap.objs.size))) { s with heap := s.heap.push { cls := .type "tuple", data := .seq #[] }, toks := s.toks }) :=
  .of_wp fun prog w A R s h => by
    obtain ⟨hp, g, d, tk, os⟩ := s
    obtain ⟨hl, h⟩ := h
    have f1 := AutoSeq1.idx_int
    wp_walk using wpAny_loadPart' hl
    repeat (first
      | (refine wpAny_ite_false (by decide) ?_; wp_walk using wpAny_loadPart' hl)
      | (refine wpAny_ite_false (by rw [hi]; decide) ?_; wp_walk using wpAny_loadPart' hl)
      | (refine wpAny_ite_true (by simp) ?_; wp_walk using wpAny_loadPart' hl))
    first | exact ⟨_, rfl, h⟩ | skip
/-- t * 0, t * 1 -/
theorem op_rep01 {X : Cx} : OpR X (binaryOp .Mult) (fun x y H Q => ∃ l k xs, x = .ref l ∧ y = .int k ∧ SqT X.K H l xs ∧ xs ≠ [] ∧ (k = 1 ∧ Q (.ref l) H ∨ k = 0 ∧ ∀ p, H p = none → Q (.ref p) (upd H p (.tup [])))) := by
  intro pins s σ H x y v u Q I rx ry ⟨l, k, xs, e1, e2, hT, hne, hq⟩
  subst e1 e2
  cases rx
  obtain ⟨t, rfl⟩ := ry
  obtain ⟨its, r, ⟨⟨cls, dd, data, sl⟩, ho, hc, n, hd⟩, hs⟩ := I.tuple hT
  simp only at hc hd
  subst hc hd
  have hi : its.toArray.isEmpty = false := by
    cases its with
    | nil => cases r; exact absurd rfl hne
    | cons a b => rfl
  refine wpAny_binaryOp_repeat_ref (T := "tuple") (U := "int") (by decide) ⟨_, ho, rfl⟩ (fun s' => typeIs_int s' k t) noFill_tuple_mul F.fills_int_mul F.slot_int_rmul repeat_tuple F.slot_int_index.lookup
    (call_meets F.slot_int_rmul (typeIs_int s k t) F.entry_int_rmul (F.args_int_rmul_2 _ _) (int_rmul_tuple k t l its.toArray n dd sl) ⟨ho, rfl, ⟨_, ho, rfl⟩, ?_⟩)
  rcases hq with ⟨rfl, q⟩ | ⟨rfl, q⟩
  · exact call_meets F.slot_tuple_mul ⟨_, ho, rfl⟩ F.entry_tuple_mul (F.args_tuple_mul_2 _ _) (tup_once l its.toArray n dd sl t) ⟨ho, .ref l, H, I, rfl, q⟩
  · refine call_meets F.slot_tuple_mul ⟨_, ho, rfl⟩ F.entry_tuple_mul (F.args_tuple_mul_2 _ _) (tup_none l its.toArray n dd sl t hi) ⟨ho, ?_⟩
    refine ⟨.ref s.heap.objs.size, _, I.laid (t' := s.toks) (o := .tup []) (fun b ob q => Heap.get?_push_of_some _ q) (Nat.le_refl _) ?_, rfl, q _ (I.hok.fresh (Nat.le_refl _))⟩
    exact ⟨by simp, [], .nil, IsTup.new _ _⟩
end G

set_option Elab.async false
set_option linter.all false
set_option autoImplicit false
set_option maxRecDepth 100000
set_option maxHeartbeats 4000000
/-! Soundness, part 3: each operator. -/
namespace G
open PySem PySem.Spec PyProof.Rows L2

theorem line_le {n : Nat} (h : n ≤ line) : n ≤ sizeLine := Nat.le_trans h (by decide)
theorem line_lt {n : Nat} (h : n < line) : n < sizeLine := Nat.lt_of_lt_of_le h (by decide)

section
variable (K : PySem.W.Frag) (fa : FW)
/-- an operator's reading: from what the two show now to a value -/
def ROp (f : D → D → Option D) : R2 := fun x y H Q => ∃ (m : Addr → Prop) (d e r : D), (∀ a, m a → H a ≠ none) ∧ Vw K fa m H d x ∧ Vw K fa m H e y ∧ f d e = some r ∧ ∀ v H', Same H H' → Rl K fa m H' r v → Q v H'
end

theorem ltS_eq : ∀ a b : List Nat, ltS a b = decide (a < b)
  | [], [] => by simp [ltS]
  | [], y :: ys => by simp [ltS]
  | x :: xs, [] => by simp [ltS]
  | x :: xs, y :: ys => by
    simp only [ltS, ltS_eq xs ys, List.cons_lt_cons_iff]
    by_cases h : x = y
    · subst h; simp
    · simp [h]

section
variable {X : Cx} {fa : FW}
theorem rl_int {m : Addr → Prop} {H : Hp} {i : Int} {v : V} : Vw X.K fa m H (.int i) v ↔ v = .int i := by simp [Vw, Rl]
theorem rl_bl {m : Addr → Prop} {H : Hp} {i : Bool} {v : V} : Vw X.K fa m H (.bl i) v ↔ v = .bl i := by simp [Vw, Rl]
theorem rl_non {m : Addr → Prop} {H : Hp} {v : V} : Vw X.K fa m H .non v ↔ v = .non := by simp [Vw, Rl]
theorem rl_str {m : Addr → Prop} {H : Hp} {i : List Nat} {v : V} : Vw X.K fa m H (.str i) v ↔ v = .str ⟨i.toArray⟩ := by simp [Vw, Rl]
theorem str_app (a b : List Nat) : (⟨a.toArray⟩ : Str) ++ ⟨b.toArray⟩ = ⟨(a ++ b).toArray⟩ := by
  show Str.append _ _ = _
  simp [Str.append]
theorem str_len (a : List Nat) : (⟨a.toArray⟩ : Str).length = a.length := by simp [Str.length]

/-- a new tuple, a new list -/
theorem Rl.newT {K : PySem.W.Frag} {m : Addr → Prop} {H : Hp} {p : Addr} {ds : List D} {vs : List V} (dom : ∀ a, m a → H a ≠ none) (np : H p = none) (r : Rls K fa m H ds vs) : Rl K fa m (upd H p (.tup vs)) (.tup ds) (.ref p) := by
  simp only [Rl]
  exact ⟨p, vs, rfl, fun h => dom p h np, upd_same, r.keep (.same (same_upd np))⟩
theorem Rl.newL {K : PySem.W.Frag} {m : Addr → Prop} {H : Hp} {p : Addr} {ds : List D} {vs : List V} (dom : ∀ a, m a → H a ≠ none) (np : H p = none) (r : Rls K fa m H ds vs) : Rl K fa m (upd H p (.lst vs)) (.lst ds) (.ref p) := by
  simp only [Rl]
  exact ⟨p, vs, rfl, fun h => dom p h np, upd_same, r.keep (.same (same_upd np))⟩

theorem add_ok : OpR X (binaryOp .Add) (ROp X.K fa addD) := by
  intro pins s σ H x y v u Q I rx ry ⟨m, d, e, r, dom, hd, he, ho, q⟩
  cases d <;> cases e <;> simp only [addD, reduceCtorEq] at ho
  case int.int a b =>
    rw [rl_int] at hd he; simp only [Option.some.injEq] at ho; subst ho
    exact op_add pins s σ H x y v u Q I rx ry ⟨a, b, hd, he, q _ _ (.refl H) (by simp [Rl])⟩
  case str.str a b =>
    rw [rl_str] at hd he
    split at ho
    · rename_i hl
      simp only [Option.some.injEq] at ho; subst ho
      refine op_add_str pins s σ H x y v u Q I rx ry ⟨_, _, hd, he, ?_, q _ _ (.refl H) (by simp only [Rl]; rw [str_app])⟩
      rw [str_len, str_len]; exact line_le hl
    · cases ho
  case tup.tup a b =>
    simp only [Vw, Rl] at hd he
    obtain ⟨p, xs, rfl, n1, h1, r1⟩ := hd
    obtain ⟨p', ys, rfl, n2, h2, r2⟩ := he
    split at ho
    · rename_i hl
      simp only [Option.some.injEq] at ho; subst ho
      refine op_catA pins s σ H _ _ v u Q I rx ry ⟨p, p', xs, ys, rfl, rfl, .of h1, .of h2, ?_, fun e => ?_, fun _ e => ?_, fun _ _ t nt => ?_⟩
      · rw [← r1.length, ← r2.length]; exact line_le hl
      · subst e
        have : a = [] := by have := r1.length; simpa using this
        subst this
        exact q _ _ (.refl H) (by simp only [Rl, List.nil_append]; exact ⟨p', ys, rfl, n2, h2, r2⟩)
      · subst e
        have : b = [] := by have := r2.length; simpa using this
        subst this
        exact q _ _ (.refl H) (by simp only [Rl, List.append_nil]; exact ⟨p, xs, rfl, n1, h1, r1⟩)
      · exact q _ _ (same_upd nt) (.newT dom nt (r1.append r2))
    · cases ho
  case lst.lst a b =>
    obtain ⟨p, xs, rfl, h1, r1⟩ := hd
    obtain ⟨p', ys, rfl, h2, r2⟩ := he
    split at ho
    · rename_i hl
      simp only [Option.some.injEq] at ho; subst ho
      refine op_cat pins s σ H _ _ v u Q I rx ry ⟨p, p', xs, ys, rfl, rfl, h1, h2, ?_, fun t nt => ?_⟩
      · rw [← r1.length, ← r2.length]; exact line_le hl
      · exact q _ _ (same_upd nt) (.newL dom nt (r1.append r2))
    · cases ho

theorem int_sub_bb (a b : Bool) : Gives (Builtin.«int.__sub__» ⟨[.bool a, .bool b], []⟩) (.int ((if a = true then (1 : Int) else 0) - if b = true then (1 : Int) else 0)) :=
  .of_wp fun M A E s Q h => by obtain ⟨hp, g, d, tk, os⟩ := s; wp_walk; exact ⟨_, rfl, h⟩
theorem sub_bb {prog : Program} {w : World} {A : Around} {E : Value → Shared → Prop} {s : Shared} {Q : Value → Shared → Prop} {a b : Bool}
    (h : Q (.int ((if a = true then (1 : Int) else 0) - if b = true then (1 : Int) else 0) s.toks) { s with toks := s.toks + 1 }) : wpAny (model prog w) A (binaryOp .Sub (.bool a) (.bool b)) Q E s :=
  binaryOp_gives (op := .Sub) (T := "bool") rfl rfl F.fills_bool_sub F.slot_bool_sub F.entry_int_sub (F.args_int_sub_2 _ _) (int_sub_bb a b) trivial h
theorem sub_ok : OpR X (binaryOp .Sub) (ROp X.K fa subD) := by
  intro pins s σ H x y v u Q I rx ry ⟨m, d, e, r, dom, hd, he, ho, q⟩
  cases d <;> cases e <;> simp only [subD, reduceCtorEq, Option.some.injEq] at ho
  case int.int a b =>
    rw [rl_int] at hd he; subst ho
    exact op_sub pins s σ H x y v u Q I rx ry ⟨a, b, hd, he, q _ _ (.refl H) (by simp [Rl])⟩
  case bl.bl a b =>
    rw [rl_bl] at hd he; subst ho hd he
    cases rx; cases ry
    exact sub_bb ⟨.int _, H, I.tok _, ⟨_, rfl⟩, q _ _ (.refl H) (by simp only [Rl] <;> rfl)⟩

theorem rep_cps (z : List Nat) : ∀ n : Nat, (List.replicate n z.toArray).foldl (· ++ ·) #[] = (List.replicate n z).flatten.toArray := by
  intro n
  have h : ∀ (l : List (List Nat)) (acc : List Nat), (l.map List.toArray).foldl (· ++ ·) acc.toArray = (acc ++ l.flatten).toArray := by
    intro l
    induction l with
    | nil => intro acc; simp
    | cons x l ih =>
      intro acc
      have := ih (acc ++ x)
      simp only [List.map_cons, List.foldl_cons, List.flatten_cons]
      rw [show acc.toArray ++ x.toArray = (acc ++ x).toArray by simp, this]
      simp
  have := h (List.replicate n z) []
  simpa using this
/-- s * n -/
theorem mul_str_any {prog : Program} {w : World} {A : Around} {E : Value → Shared → Prop} {s : Shared} {Q : Value → Shared → Prop} {z : List Nat} {n : Int} {t u : Tok} (h1 : -1000 ≤ n) (h2 : n ≤ 1000) (h3 : z.length ≤ 1000)
    (h : ∀ t' tk, Q (.str ⟨(List.replicate n.toNat z).flatten.toArray⟩ t') { s with toks := tk }) : wpAny (model prog w) A (binaryOp .Mult (.str ⟨z.toArray⟩ t) (.int n u)) Q E s := by
  have hz : (⟨z.toArray⟩ : Str).length = z.length := by simp [Str.length]
  have hm : z.length * n.toNat ≤ 1000000 := Nat.le_trans (Nat.mul_le_mul h3 (show n.toNat ≤ 1000 by omega)) (by decide)
  refine PySem.P.mul_str ?_ ?_ ?_ ?_
  · rw [decide_eq_false (by omega), decide_eq_false (by omega)] <;> rfl
  · intro ha hb hc
    rw [hz] at hc
    have e : (1000 : Int) ≤ (2 ^ 63 - 1) / n := (Int.le_ediv_iff_mul_le (by omega)).mpr (by omega)
    omega
  · intro ha hb
    rw [hz]
    exact decide_eq_false (by rw [sizeLine_eq]; omega)
  · by_cases c1 : n < 1
    · rw [if_pos c1]
      have e : n.toNat = 0 := by omega
      refine ⟨by decide, ?_⟩
      have := h s.toks (s.toks + 1)
      rw [e] at this
      exact this
    · rw [if_neg c1]
      by_cases c2 : (n == 1 || (⟨z.toArray⟩ : Str).length == 0) = true
      · rw [if_pos c2]
        have e : (List.replicate n.toNat z).flatten = z := by
          simp only [Bool.or_eq_true, beq_iff_eq] at c2
          rcases c2 with c2 | c2
          · subst c2; simp
          · rw [hz] at c2
            have : z = [] := List.length_eq_zero_iff.mp c2
            subst this; simp
        have := h t s.toks
        rw [e] at this
        exact this
      · rw [if_neg c2]
        have e : (⟨(List.replicate n.toNat (⟨z.toArray⟩ : Str).cps).foldl (· ++ ·) #[]⟩ : Str) = ⟨(List.replicate n.toNat z).flatten.toArray⟩ := by rw [rep_cps]
        rw [e]
        refine ⟨?_, h _ _⟩
        have hl : ((List.replicate n.toNat z).flatten).length ≤ 1000000 := by
          rw [List.length_flatten, List.map_replicate, List.sum_replicate_nat, Nat.mul_comm]; exact hm
        show _ ≤ _
        simp [Str.length, sizeLine_eq]
        rw [Nat.mul_comm]; omega
theorem mul_ok : OpR X (binaryOp .Mult) (ROp X.K fa mulD) := by
  intro pins s σ H x y v u Q I rx ry ⟨m, d, e, r, dom, hd, he, ho, q⟩
  cases d <;> cases e <;> simp only [mulD, reduceCtorEq] at ho
  case int.int a b =>
    rw [rl_int] at hd he
    split at ho
    · rename_i hl
      simp only [Option.some.injEq] at ho; subst ho
      have fin := q (.int (a * b)) H (.refl H) (by simp [Rl])
      rcases hl with h | h | h
      · exact op_mul pins s σ H x y v u Q I rx ry ⟨a, b, hd, he, .inl h, fin⟩
      · exact op_mul pins s σ H x y v u Q I rx ry ⟨a, b, hd, he, .inr h, fin⟩
      · exact op_mulW pins s σ H x y v u Q I rx ry ⟨a, b, hd, he, wide_mul h.1 h.2 (by decide) (by decide) (by decide), fin⟩
    · cases ho
  case lst.int a b =>
    rw [rl_int] at he
    obtain ⟨p, xs, rfl, h1, r1⟩ := hd
    split at ho
    · rename_i hl
      simp only [Option.some.injEq] at ho; subst ho
      refine op_rep pins s σ H _ _ v u Q I rx ry ⟨p, b, xs, rfl, he, h1, by omega, by omega, ?_, fun t nt => ?_⟩
      · rw [← r1.length]
        exact Nat.le_trans (Nat.mul_le_mul hl.2.2 (show b.toNat ≤ 1000 by omega)) (by decide)
      · exact q _ _ (same_upd nt) (.newL dom nt (r1.rep _))
    · cases ho
  case str.int z b =>
    rw [rl_int] at he; rw [rl_str] at hd
    split at ho
    · rename_i hl
      simp only [Option.some.injEq] at ho; subst ho hd he
      obtain ⟨t, rfl⟩ := rx
      obtain ⟨t2, rfl⟩ := ry
      exact mul_str_any hl.1 hl.2.1 hl.2.2 fun t' tk => ⟨.str _, H, I.tok tk, ⟨t', rfl⟩, q _ _ (.refl H) (by simp only [Rl])⟩
    · cases ho
  case tup.int a b =>
    rw [rl_int] at he
    obtain ⟨p, xs, rfl, _, h1, r1⟩ := (show ∃ p xs, x = V.ref p ∧ ¬ m p ∧ H p = some (.tup xs) ∧ Rls X.K fa m H a xs by simpa [Vw, Rl] using hd)
    split at ho
    · rename_i hl
      simp only [Option.some.injEq] at ho; subst ho
      have hn : xs ≠ [] := fun e => by
        subst e
        have := r1.length
        have : a = [] := by simpa using this
        subst this; simp at hl
      by_cases hb : 2 ≤ b
      · exact op_repT pins s σ H _ _ v u Q I rx ry ⟨p, b, xs, rfl, he, .of h1, hn, hb, hl.2.1, by rw [← r1.length]; exact hl.2.2.1, fun t nt => q _ _ (same_upd nt) (.newT dom nt (r1.rep _))⟩
      · refine op_rep01 pins s σ H _ _ v u Q I rx ry ⟨p, b, xs, rfl, he, .of h1, hn, ?_⟩
        rcases (show b = 1 ∨ b = 0 by omega) with e | e
        · subst e
          exact .inl ⟨rfl, q _ _ (.refl H) (by simpa [Vw] using hd)⟩
        · subst e
          exact .inr ⟨rfl, fun t nt => q _ _ (same_upd nt) (.newT dom nt (by simp [Rls]))⟩
    · cases ho

theorem fdiv_ok : OpR X (binaryOp .FloorDiv) (ROp X.K fa fdivD) := by
  intro pins s σ H x y v u Q I rx ry ⟨m, d, e, r, dom, hd, he, ho, q⟩
  cases d <;> cases e <;> simp only [fdivD, reduceCtorEq] at ho
  rename_i a b
  rw [rl_int] at hd he
  split at ho
  · rename_i hl
    simp only [Option.some.injEq] at ho; subst ho
    exact op_fdiv pins s σ H x y v u Q I rx ry ⟨a, b, hd, he, hl, q _ _ (.refl H) (by simp [Rl])⟩
  · cases ho
theorem mod_ok : OpR X (binaryOp .Mod) (ROp X.K fa modD) := by
  intro pins s σ H x y v u Q I rx ry ⟨m, d, e, r, dom, hd, he, ho, q⟩
  cases d <;> cases e <;> simp only [modD, reduceCtorEq] at ho
  rename_i a b
  rw [rl_int] at hd he
  split at ho
  · rename_i hl
    simp only [Option.some.injEq] at ho; subst ho
    exact op_mod pins s σ H x y v u Q I rx ry ⟨a, b, hd, he, hl, q _ _ (.refl H) (by simp [Rl])⟩
  · cases ho
theorem pow_ok : OpR X (binaryOp .Pow) (ROp X.K fa powD) := by
  intro pins s σ H x y v u Q I rx ry ⟨m, d, e, r, dom, hd, he, ho, q⟩
  cases d <;> cases e <;> simp only [powD, reduceCtorEq] at ho
  rename_i a b
  rw [rl_int] at hd he
  split at ho
  · rename_i hl
    simp only [Option.some.injEq] at ho; subst ho
    exact op_pow pins s σ H x y v u Q I rx ry ⟨a, b, hd, he, ⟨hl.1, by omega, hl.2.2⟩, q _ _ (.refl H) (by simp [Rl])⟩
  · cases ho

theorem eq_ok (hu : X.A.units + 65 < cLine) : OpR X (compareOp .Eq) (ROp X.K fa eqD) := by
  intro pins s σ H x y v u Q I rx ry ⟨m, d, e, r, dom, hd, he, ho, q⟩
  simp only [eqD] at ho
  split at ho
  · rename_i hl
    simp only [Option.some.injEq] at ho; subst ho
    simp only [Bool.and_eq_true] at hl
    refine op_eqD (by omega) pins s σ H x y v u Q I rx ry ⟨toPy d, toPy e, Vw.dp hl.1 hd, Vw.dp hl.2 he, shaped_of hl.1, shaped_of hl.2, ?_⟩
    rw [eqv_py _ _ (noE_of hl.1) (noE_of hl.2)]
    exact q _ _ (.refl H) (by simp [Rl])
  · cases ho
theorem ne_ok (hu : X.A.units + 65 < cLine) : OpR X (compareOp .NotEq) (ROp X.K fa neD) := by
  intro pins s σ H x y v u Q I rx ry ⟨m, d, e, r, dom, hd, he, ho, q⟩
  simp only [neD] at ho
  split at ho
  · rename_i hl
    simp only [Option.some.injEq] at ho; subst ho
    simp only [Bool.and_eq_true] at hl
    refine op_neD (by omega) pins s σ H x y v u Q I rx ry ⟨toPy d, toPy e, Vw.dp hl.1 hd, Vw.dp hl.2 he, shaped_of hl.1, shaped_of hl.2, ?_⟩
    rw [eqv_py _ _ (noE_of hl.1) (noE_of hl.2)]
    exact q _ _ (.refl H) (by simp [Rl])
  · cases ho
theorem lt_ok : OpR X (compareOp .Lt) (ROp X.K fa ltD) := by
  intro pins s σ H x y v u Q I rx ry ⟨m, d, e, r, dom, hd, he, ho, q⟩
  cases d <;> cases e <;> simp only [ltD, reduceCtorEq, Option.some.injEq] at ho
  case int.int a b =>
    rw [rl_int] at hd he; subst ho
    exact op_lt pins s σ H x y v u Q I rx ry ⟨a, b, hd, he, q _ _ (.refl H) (by simp [Rl])⟩
  case str.str a b =>
    rw [rl_str] at hd he; subst ho
    exact op_lt_str pins s σ H x y v u Q I rx ry ⟨_, _, hd, he, q _ _ (.refl H) (by simp [Rl, ltS_eq])⟩
theorem gt_ok : OpR X (compareOp .Gt) (ROp X.K fa gtD) := by
  intro pins s σ H x y v u Q I rx ry ⟨m, d, e, r, dom, hd, he, ho, q⟩
  cases d <;> cases e <;> simp only [gtD, reduceCtorEq, Option.some.injEq] at ho
  case int.int a b =>
    rw [rl_int] at hd he; subst ho
    exact op_gt pins s σ H x y v u Q I rx ry ⟨a, b, hd, he, q _ _ (.refl H) (by simp [Rl])⟩
  case str.str a b =>
    rw [rl_str] at hd he; subst ho
    exact op_gt_str pins s σ H x y v u Q I rx ry ⟨_, _, hd, he, q _ _ (.refl H) (by simp [Rl, ltS_eq])⟩
theorem le_ok : OpR X (compareOp .LtE) (ROp X.K fa leD) := by
  intro pins s σ H x y v u Q I rx ry ⟨m, d, e, r, dom, hd, he, ho, q⟩
  cases d <;> cases e <;> simp only [leD, reduceCtorEq, Option.some.injEq] at ho
  rename_i a b
  rw [rl_int] at hd he; subst ho
  exact op_le pins s σ H x y v u Q I rx ry ⟨a, b, hd, he, q _ _ (.refl H) (by simp [Rl])⟩
theorem ge_ok : OpR X (compareOp .GtE) (ROp X.K fa geD) := by
  intro pins s σ H x y v u Q I rx ry ⟨m, d, e, r, dom, hd, he, ho, q⟩
  cases d <;> cases e <;> simp only [geD, reduceCtorEq, Option.some.injEq] at ho
  rename_i a b
  rw [rl_int] at hd he; subst ho
  exact op_ge pins s σ H x y v u Q I rx ry ⟨a, b, hd, he, q _ _ (.refl H) (by simp [Rl])⟩

theorem isNon_vw {m : Addr → Prop} {H : Hp} {d : D} {v : V} (h : Vw X.K fa m H d v) : decide (v = .non) = d.isNon := by
  cases d with
  | lst ds => obtain ⟨a, vs, rfl, _⟩ := h; simp [D.isNon]
  | non => rw [rl_non] at h; subst h; simp [D.isNon]
  | bl b => rw [rl_bl] at h; subst h; simp [D.isNon]
  | int i => rw [rl_int] at h; subst h; simp [D.isNon]
  | str z => rw [rl_str] at h; subst h; simp [D.isNon]
  | tup ds => simp only [Vw, Rl] at h; obtain ⟨a, vs, rfl, _⟩ := h; simp [D.isNon]
  | ktup ds => simp only [Vw, Rl] at h; obtain ⟨a, vs, rfl, _⟩ := h; simp [D.isNon]
  | frz ds => simp only [Vw, Rl] at h; obtain ⟨a, vs, rfl, _⟩ := h; simp [D.isNon]
  | dct _ _ => obtain ⟨a, o, xs, kv, vv, rfl, _⟩ := h; simp [D.isNon]
  | dcf _ _ => simp only [Vw, Rl] at h; obtain ⟨a, o, xs, vv, rfl, _⟩ := h; simp [D.isNon]
  | fn i => simp only [Vw, Rl] at h; obtain ⟨a, _, rfl⟩ := h; simp [D.isNon]
theorem is_ok : OpR X (compareOp .Is) (ROp X.K fa (opD .is_)) := by
  intro pins s σ H x y v u Q I rx ry ⟨m, d, e, r, dom, hd, he, ho, q⟩
  cases e with
  | non =>
    rw [rl_non] at he
    have e : r = .bl d.isNon := by
      simp only [opD] at ho
      unfold isD at ho
      split at ho <;> simp_all
    subst e
    refine op_isN pins s σ H x y v u Q I rx ry ⟨he, ?_⟩
    rw [isNon_vw hd]
    exact q _ _ (.refl H) (by simp [Rl])
  | bl b =>
    cases d with
    | bl a =>
      rw [rl_bl] at hd he
      simp only [opD, isD, Option.some.injEq] at ho; subst ho
      refine op_isBl pins s σ H x y v u Q I rx ry ⟨a, b, hd, he, q _ _ (.refl H) ?_⟩
      simp only [Rl]; cases a <;> cases b <;> rfl
    | _ => simp [opD, isD] at ho
  | _ => cases d <;> simp [opD, isD] at ho
theorem isnot_ok : OpR X (compareOp .IsNot) (ROp X.K fa (opD .isnot)) := by
  intro pins s σ H x y v u Q I rx ry ⟨m, d, e, r, dom, hd, he, ho, q⟩
  cases e with
  | non =>
    rw [rl_non] at he
    have e : r = .bl (!d.isNon) := by
      simp only [opD] at ho
      unfold isD at ho
      split at ho <;> simp_all
    subst e
    refine op_notN pins s σ H x y v u Q I rx ry ⟨he, ?_⟩
    rw [isNon_vw hd]
    exact q _ _ (.refl H) (by simp [Rl])
  | bl b =>
    cases d with
    | bl a =>
      rw [rl_bl] at hd he
      simp only [opD, isD, Option.map_some, Option.some.injEq] at ho; subst ho
      refine op_notBl pins s σ H x y v u Q I rx ry ⟨a, b, hd, he, q _ _ (.refl H) ?_⟩
      simp only [Rl]; cases a <;> cases b <;> rfl
    | _ => simp [opD, isD] at ho
  | _ => cases d <;> simp [opD, isD] at ho

/-! ### in -/
theorem flat_vw {m : Addr → Prop} {H : Hp} {d : D} {v : V} (f : d.flat = true) (h : Rl X.K fa m H d v) : flatV v = true ∧ ∀ e u, e.flat = true → Rl X.K fa m H e u → eqV u v = D.eqv e d := by
  cases d with
  | non => simp only [Rl] at h; subst h; refine ⟨rfl, fun e u fe he => ?_⟩; cases e <;> simp only [D.flat, Bool.false_eq_true] at fe <;> simp only [Rl] at he <;> subst he <;> simp [eqV, D.eqv]
  | bl b => simp only [Rl] at h; subst h; refine ⟨rfl, fun e u fe he => ?_⟩; cases e <;> simp only [D.flat, Bool.false_eq_true] at fe <;> simp only [Rl] at he <;> subst he <;> simp [eqV, D.eqv]
  | int i => simp only [Rl] at h; subst h; refine ⟨rfl, fun e u fe he => ?_⟩; cases e <;> simp only [D.flat, Bool.false_eq_true] at fe <;> simp only [Rl] at he <;> subst he <;> simp [eqV, D.eqv]
  | str z => simp only [Rl] at h; subst h; refine ⟨rfl, fun e u fe he => ?_⟩; cases e <;> simp only [D.flat, Bool.false_eq_true] at fe <;> simp only [Rl] at he <;> subst he <;> simp [eqV, D.eqv, arr_beq]
  | _ => simp [D.flat] at f
theorem flat_all {m : Addr → Prop} {H : Hp} {d : D} {v : V} (f : d.flat = true) (h : Rl X.K fa m H d v) : ∀ {ds : List D} {vs : List V}, ds.all D.flat = true → Rls X.K fa m H ds vs → vs.all flatV = true ∧ inV v vs = ds.any fun x => D.eqv x d
  | [], _, _, r => by rw [r.nil]; simp [inV]
  | e :: ds, _, fe, r => by
    obtain ⟨u, us, rfl, h1, h2⟩ := r.uncons
    simp only [List.all_cons, Bool.and_eq_true] at fe
    have ih := flat_all f h fe.2 h2
    have a1 := (flat_vw fe.1 h1).1
    have a2 := (flat_vw f h).2 e u fe.1 h1
    refine ⟨by simp [a1, ih.1], ?_⟩
    simp only [inV, List.any_cons, a2] at ih ⊢
    rw [ih.2]
theorem flat_rl {m : Addr → Prop} {H : Hp} {d : D} {v : V} (f : d.flat = true) (h : Vw X.K fa m H d v) : Rl X.K fa m H d v := by
  cases d <;> first | exact h | simp [D.flat] at f

def InP (neg : Bool) : R2 := fun x y H Q => ∃ (m : Addr → Prop) (d e : D) (b : Bool), (∀ a, m a → H a ≠ none) ∧ Vw X.K fa m H d x ∧ Vw X.K fa m H e y ∧ inD d e = some b ∧ Q (.bl (if neg then !b else b)) H
theorem any_py (d : D) (hd : d.noE = true) : ∀ ds : List D, D.noEs ds = true → ((toPys ds).any fun z => PyData.eqv z (toPy d)) = ds.any fun x => D.eqv x d
  | [], _ => rfl
  | e :: ds, h => by
    simp only [D.noEs, Bool.and_eq_true] at h
    simp only [toPys, List.any_cons, eqv_py e d h.1 hd, any_py d hd ds h.2]
theorem dat_list {ds : List D} (h : ds.all D.dat = true) : SeqAt.shaped (.list (toPys ds)) = true ∧ D.noEs ds = true ∧ D.okd 51 (.lst ds) = true := by
  have h' : ∀ x ∈ ds, D.okd 50 x = true := by simpa [D.dat] using h
  have := lay_all h'
  refine ⟨?_, noEs_of h', by simpa [D.okd] using h'⟩
  have h2 := this.2
  have e : SeqAt.shaped (.list (toPys ds)) = (PyData.canLayAll0 (toPys ds) && decide ((PyData.list (toPys ds)).depth ≤ 64)) := rfl
  rw [e, this.1, Bool.true_and, decide_eq_true_eq]
  simp only [PyData.depth]
  omega
theorem in_core (hp : fa.p = X.prog) (hw : fa.w = X.w) (hu : X.A.units + 65 < cLine) (neg : Bool) : OpR X (compareOp (if neg then .NotIn else .In)) (InP (X := X) (fa := fa) neg) := by
  intro pins s σ H x y v u Q I rx ry ⟨m, d, e, b, dom, hd, he, ho, q⟩
  have tupc : ∀ (ds : List D) (p : Addr) (vs : List V), y = .ref p → SqT X.K H p vs → Rls X.K fa m H ds vs → (if (d.flat && ds.all D.flat) = true then some (ds.any fun x => D.eqv x d) else none) = some b →
      wpAny (model X.prog X.w) X.A (compareOp (if neg then .NotIn else .In) v u) (EP X pins σ Q) X.xe s := by
    intro ds p vs ey hs hr hb
    split at hb
    · rename_i hf
      simp only [Bool.and_eq_true] at hf
      simp only [Option.some.injEq] at hb; subst hb
      have f1 := flat_rl hf.1 hd
      have f2 := flat_all hf.1 f1 hf.2 hr
      have f3 := (flat_vw hf.1 f1).1
      cases neg
      · exact op_in_seq pins s σ H x y v u Q I rx ry ⟨p, vs, ey, .inr hs, f3, f2.1, by simpa [f2.2] using q⟩
      · exact op_notIn_seq pins s σ H x y v u Q I rx ry ⟨p, vs, ey, .inr hs, f3, f2.1, by simpa [f2.2] using q⟩
    · cases hb
  cases e with
  | str z =>
    cases d with
    | str a =>
      match a, ho, hd with
      | [c], ho, hd =>
        simp only [inD, Option.some.injEq] at ho; subst ho
        rw [rl_str] at hd he
        have e : decide (c ∈ (⟨z.toArray⟩ : Str).cps.toList) = z.contains c := by simp
        cases neg
        · refine op_in_sign pins s σ H x y v u Q I rx ry ⟨c, _, hd, he, ?_⟩; rw [e]; exact q
        · refine op_notIn_sign pins s σ H x y v u Q I rx ry ⟨c, _, hd, he, ?_⟩; rw [e]; exact q
      | [], ho, _ => simp [inD] at ho
      | _ :: _ :: _, ho, _ => simp [inD] at ho
    | _ => simp [inD] at ho
  | tup ds =>
    simp only [Vw, Rl] at he
    obtain ⟨p, vs, e1, _, e2, e3⟩ := he
    exact tupc ds p vs e1 (.of e2) e3 (by cases d <;> simpa [inD] using ho)
  | ktup ds =>
    simp only [Vw, Rl] at he
    obtain ⟨p, vs, e1, e2, e3⟩ := he
    exact tupc ds p vs e1 (e2 H) e3 (by cases d <;> simpa [inD] using ho)
  | lst ds =>
    have ho' : (if (d.dat && ds.all D.dat) = true then some (ds.any fun x => D.eqv x d) else none) = some b := by cases d <;> simpa [inD] using ho
    split at ho'
    · rename_i hf
      simp only [Bool.and_eq_true] at hf
      simp only [Option.some.injEq] at ho'; subst ho'
      have a := dat_list hf.2
      have e := any_py d (noE_of hf.1) ds a.2.1
      cases neg
      · refine op_inD (by omega) pins s σ H x y v u Q I rx ry ⟨toPy d, toPys ds, Vw.dp hf.1 hd, Vw.dp (n := 51) a.2.2 he, shaped_of hf.1, a.1, ?_⟩
        rw [e]; exact q
      · refine op_notInD (by omega) pins s σ H x y v u Q I rx ry ⟨toPy d, toPys ds, Vw.dp hf.1 hd, Vw.dp (n := 51) a.2.2 he, shaped_of hf.1, a.1, ?_⟩
        rw [e]; exact q
    · cases ho'
  | dct ks vs =>
    have ho' : (if d.key = true then some (ks.any fun a => D.eqv a d) else none) = some b := by cases d <;> simpa [inD] using ho
    split at ho'
    · rename_i hk
      simp only [Option.some.injEq] at ho'; subst ho'
      obtain ⟨a, o, xs, kv, vv, rfl, e1, e2, e3, e4⟩ := he
      cases ry
      have hd' : Rl X.K fa m H d x := by
        cases d <;> first | exact hd | simp [D.key] at hk
      obtain ⟨c, rfl⟩ := key_ref hk hd'
      cases rx
      have hm := dict_of hp hw I e1 e2 e4
      have ha := atKey_look hk e4.ks e4.key
      cases neg
      · refine wpAny_in_heap (room8 hu) (key_is I hk hd') e4.sys hm ?_
        rw [ha]
        exact ⟨.bl _, H, I.tok _, rfl, q⟩
      · refine (notIn_keyed (room8 hu) (key_is I hk hd') e4.sys ⟨xs, hm, rfl⟩ ?_)
        rw [valueAt_pairsH, Option.isSome_map, ha]
        exact ⟨.bl _, H, I.tok _, rfl, q⟩
    · cases ho'
  | _ => cases d <;> simp [inD] at ho
theorem in_ok (hp : fa.p = X.prog) (hw : fa.w = X.w) (hu : X.A.units + 65 < cLine) : OpR X (compareOp .In) (ROp X.K fa (opD .in_)) := by
  intro pins s σ H x y v u Q I rx ry ⟨m, d, e, r, dom, hd, he, ho, q⟩
  simp only [opD, Option.map_eq_some_iff] at ho
  obtain ⟨b, h1, rfl⟩ := ho
  exact in_core hp hw hu false pins s σ H x y v u Q I rx ry ⟨m, d, e, b, dom, hd, he, h1, q _ _ (.refl H) (by simp [Rl])⟩
theorem notin_ok (hp : fa.p = X.prog) (hw : fa.w = X.w) (hu : X.A.units + 65 < cLine) : OpR X (compareOp .NotIn) (ROp X.K fa (opD .notin)) := by
  intro pins s σ H x y v u Q I rx ry ⟨m, d, e, r, dom, hd, he, ho, q⟩
  simp only [opD, Option.map_eq_some_iff] at ho
  obtain ⟨b, h1, rfl⟩ := ho
  exact in_core hp hw hu true pins s σ H x y v u Q I rx ry ⟨m, d, e, b, dom, hd, he, h1, q _ _ (.refl H) (by simp [Rl])⟩

/-! ### flat keys -/
theorem fk_eq {a b : D} (h : a.fkey = true) (g : b.fkey = true) : decide (fk a = fk b) = D.eqv a b := by
  cases a <;> simp only [D.fkey, Bool.false_eq_true] at h <;> cases b <;> simp only [D.fkey, Bool.false_eq_true] at g <;> simp [fk, D.eqv] <;> (rw [Bool.eq_iff_iff]; simp)
theorem fk_is {P : Program} {w : World} {m : Addr → Prop} {H : Hp} {k : D} {v : V} {u : Value} (hk : k.fkey = true) (r : Vw X.K fa m H k v) (ru : RelV v u) : (noneKind P w).is (fk k) u = true := by
  cases k <;> simp only [D.fkey, Bool.false_eq_true] at hk
  · rw [rl_non] at r; subst r; cases ru; rfl
  · rw [rl_int] at r; subst r; obtain ⟨t, rfl⟩ := ru; exact mixKind_int P w _ t
  · rw [rl_str] at r; subst r; obtain ⟨t, rfl⟩ := ru; exact mixKind_str P w _ t
theorem valAt_get {K : PySem.W.Frag} {fa : FW} {m : Addr → Prop} {H : Hp} {k r : D} (hk : k.fkey = true) : ∀ {ks vs : List D} {xs : List (Option Key × Value)} {vv : List V}, xs.map (·.1) = ks.map fk → (∀ a ∈ ks, a.fkey = true) → Rls K fa m H vs vv → Vals vv (xs.map (·.2)) → lookD k ks vs = some r →
    ∃ u v, valueAt xs (fk k) = some u ∧ RelV v u ∧ Rl K fa m H r v
  | [], vs, xs, vv, _, _, _, _, e => by simp [lookD] at e
  | a :: ks, [], xs, vv, _, _, _, _, e => by simp [lookD] at e
  | a :: ks, b :: vs, [], vv, h, _, _, _, _ => by simp at h
  | a :: ks, b :: vs, x :: xs, vv, h, g, rl, rv, e => by
    simp only [List.map_cons, List.cons.injEq] at h
    obtain ⟨v, vr, rfl, r1, r2⟩ := rl.uncons
    simp only [List.map_cons] at rv
    cases rv with
    | cons q1 q2 =>
      have en := fk_eq (g a (by simp)) hk
      simp only [lookD] at e
      simp only [valueAt]
      rw [List.find?_cons, h.1]
      split at e
      · rename_i hq
        rw [hq] at en
        simp only [Option.some.injEq] at e; subst e
        rw [en]
        exact ⟨x.2, v, rfl, q1, r1⟩
      · rename_i hq
        have hq' : decide (fk a = fk k) = false := by rw [en]; simpa using hq
        rw [hq']
        exact valAt_get hk h.2 (fun z hz => g z (by simp [hz])) r2 q2 e

/-! ### subscripts -/
theorem at_eq {α : Type} (xs : List α) (i : Int) : at_ xs i = atI xs i := rfl
theorem atI_rls {m : Addr → Prop} {H : Hp} {ds : List D} {vs : List V} {i : Int} {r : D} (h : Rls X.K fa m H ds vs) (e : at_ ds i = some r) : ∃ v, atI vs i = some v ∧ Rl X.K fa m H r v := by
  unfold at_ at e
  unfold atI
  rw [← h.length]
  cases q : ix ds.length i with
  | none => rw [q] at e; simp at e
  | some j =>
    rw [q] at e
    simp only [Option.bind_some] at e
    obtain ⟨v, h1, h2⟩ := h.get e
    refine ⟨v, ?_, h2⟩
    have : ixN ds.length i = some j := q
    rw [this]; exact h1
theorem ix_ok (hp : fa.p = X.prog) (hw : fa.w = X.w) (hu : X.A.units + 65 < cLine) : IxR X (ROp X.K fa ixD) := by
  intro value slice pins s σ H x y v u Q I rx ry ⟨m, d, e, r, dom, hd, he, ho, q⟩ hsub
  cases d with
  | tup ds =>
    cases e with
    | int i =>
      simp only [ixD] at ho
      rw [rl_int] at he
      simp only [Vw, Rl] at hd
      obtain ⟨p, vs, e1, _, e2, e3⟩ := hd
      obtain ⟨z, h1, h2⟩ := atI_rls e3 ho
      exact ix_tup value slice pins s σ H x y v u Q I rx ry ⟨p, vs, i, z, e1, he, .of e2, h1, q _ _ (.refl H) h2⟩ hsub
    | _ => simp [ixD] at ho
  | lst ds =>
    cases e with
    | int i =>
      simp only [ixD] at ho
      rw [rl_int] at he
      obtain ⟨p, vs, e1, e2, e3⟩ := hd
      obtain ⟨z, h1, h2⟩ := atI_rls e3 ho
      exact ix_list value slice pins s σ H x y v u Q I rx ry ⟨p, vs, i, z, e1, he, .of e2, h1, q _ _ (.refl H) h2⟩ hsub
    | _ => simp [ixD] at ho
  | frz ds =>
    cases e with
    | int i =>
      simp only [ixD] at ho
      rw [rl_int] at he
      simp only [Vw, Rl] at hd
      obtain ⟨p, vs, e1, e2, e3⟩ := hd
      obtain ⟨z, h1, h2⟩ := atI_rls e3 ho
      have e2' : SqL X.K H p vs := by
        rcases e2 with ⟨o, _, e2⟩ | e2
        · exact .inl (.inr ⟨o, e2⟩)
        · exact e2 H
      exact ix_list value slice pins s σ H x y v u Q I rx ry ⟨p, vs, i, z, e1, he, e2', h1, q _ _ (.refl H) h2⟩ hsub
    | _ => simp [ixD] at ho
  | str z =>
    cases e with
    | int i =>
      simp only [ixD] at ho
      rw [rl_int] at he; rw [rl_str] at hd
      split at ho
      · rename_i hl
        simp only [Option.map_eq_some_iff] at ho
        obtain ⟨c, h1, rfl⟩ := ho
        exact ix_str value slice pins s σ H x y v u Q I rx ry ⟨_, i, c, hd, he, by rw [str_len]; exact line_le hl, h1, q _ _ (.refl H) (by simp [Rl])⟩ hsub
      · cases ho
    | _ => simp [ixD] at ho
  | dct ks vs =>
    have ho' : (if e.key = true then lookD e ks vs else none) = some r := by cases e <;> simpa [ixD] using ho
    split at ho'
    · rename_i hk
      obtain ⟨a, o, xs, kv, vv, rfl, e1, e2, e3, e4⟩ := hd
      cases rx
      have he' : Rl X.K fa m H e y := by
        cases e <;> first | exact he | simp [D.key] at hk
      obtain ⟨c, rfl⟩ := key_ref hk he'
      cases ry
      have hm := dict_of hp hw I e1 e2 e4
      obtain ⟨p, z, h1, h2, h3⟩ := atKey_get hk e4.ks e4.key e3 e4.vs ho'
      refine tail_any hm.typeIs PySem.F.slot_dict_getitem.lookup (wpAny_getItem_heap (room8 hu) (key_is I hk he') hm h1 ?_) hsub
      exact ⟨z, H, I.tok _, h2, q _ _ (.refl H) h3⟩
    · cases ho'
  | dcf ks vs =>
    have ho' : (if e.fkey = true then lookD e ks vs else none) = some r := by cases e <;> simpa [ixD] using ho
    split at ho'
    · rename_i hk
      simp only [Vw, Rl] at hd
      obtain ⟨a, o, xs, vv, rfl, _, e1, e3, e4⟩ := hd
      cases rx
      obtain ⟨f, p, w, cc⟩ := fa
      simp only at hp hw; subst hp hw
      have hm : s.heap.DictOf (noneKind X.prog X.w) a xs := e4.dat s.heap (inv_o I e1)
      obtain ⟨u2, z, h1, h2, h3⟩ := valAt_get hk e4.ks e4.key e3 e4.vs ho'
      refine tail_any hm.typeIs PySem.F.slot_dict_getitem.lookup (wpAny_getItem_of (fk_is (P := X.prog) (w := X.w) hk he ry) hm.mapOf h1 ?_) hsub
      exact ⟨z, H, I.tok _, h2, q _ _ (.refl H) h3⟩
    · cases ho'
  | _ => cases e <;> simp [ixD] at ho
end
end G

set_option Elab.async false
set_option linter.all false
set_option autoImplicit false
set_option maxRecDepth 100000
set_option maxHeartbeats 4000000
/-! Soundness, part 4: built-ins by values. -/
namespace G
open PySem PySem.Spec PyProof.Rows L2

section
variable (K : PySem.W.Frag) (fa : FW)
def Vws (m : Addr → Prop) (H : Hp) : List D → List V → Prop
  | [], vs => vs = []
  | d :: ds, vs => ∃ v r, vs = v :: r ∧ Vw K fa m H d v ∧ Vws m H ds r
/-- a built-in's reading -/
def RBi (f : List D → Option D) : List V → Hp → VK → Prop := fun xs H Q => ∃ (m : Addr → Prop) (ds : List D) (r : D), (∀ a, m a → H a ≠ none) ∧ Vws K fa m H ds xs ∧ f ds = some r ∧ ∀ v H', Same H H' → Rl K fa m H' r v → Q v H'
variable {K fa}
theorem Vws.one {m : Addr → Prop} {H : Hp} {d : D} {vs : List V} (h : Vws K fa m H [d] vs) : ∃ v, vs = [v] ∧ Vw K fa m H d v := by
  obtain ⟨v, r, rfl, h1, h2⟩ := h
  have e : r = [] := h2
  subst e
  exact ⟨v, rfl, h1⟩
theorem Vws.two {m : Addr → Prop} {H : Hp} {d e : D} {vs : List V} (h : Vws K fa m H [d, e] vs) : ∃ v u, vs = [v, u] ∧ Vw K fa m H d v ∧ Vw K fa m H e u := by
  obtain ⟨v, r, rfl, h1, h2⟩ := h
  obtain ⟨u, rfl, h3⟩ := h2.one
  exact ⟨v, u, rfl, h1, h3⟩
end

section
variable {X : Cx} {fa : FW}
theorem vw_sq {m : Addr → Prop} {H : Hp} {ds : List D} {v : V} (h : Vw X.K fa m H (.lst ds) v) : ∃ a vs, v = .ref a ∧ H a = some (.lst vs) ∧ Rls X.K fa m H ds vs := h
theorem vw_tup {m : Addr → Prop} {H : Hp} {ds : List D} {v : V} (h : Vw X.K fa m H (.tup ds) v) : ∃ a vs, v = .ref a ∧ ¬ m a ∧ H a = some (.tup vs) ∧ Rls X.K fa m H ds vs := by simpa [Vw, Rl] using h
theorem vw_frz {m : Addr → Prop} {H : Hp} {ds : List D} {v : V} (h : Vw X.K fa m H (.frz ds) v) : ∃ a vs, v = .ref a ∧ SqL X.K H a vs ∧ Rls X.K fa m H ds vs := by
  simp only [Vw, Rl] at h
  obtain ⟨a, vs, e, h1, h2⟩ := h
  refine ⟨a, vs, e, ?_, h2⟩
  rcases h1 with ⟨o, _, h1⟩ | h1
  · exact .inl (.inr ⟨o, h1⟩)
  · exact h1 H

theorem len_ok : CallR X (.builtin "len") (RBi X.K fa (biD .len)) := by
  intro pins s σ H xs us Q I r ⟨m, ds, x, dom, hv, ho, q⟩
  match ds, ho, hv with
  | [d], ho, hv =>
    obtain ⟨v, rfl, h⟩ := hv.one
    cases d with
    | str z =>
      rw [rl_str] at h
      simp only [biD] at ho
      split at ho
      · rename_i hl
        simp only [Option.some.injEq] at ho; subst ho h
        exact call_len pins s σ H _ us Q I r ⟨_, z.length, rfl, ⟨by rw [str_len]; exact line_le hl, (str_len z).symm⟩, q _ _ (.refl H) (by simp [Rl])⟩
      · cases ho
    | tup ds =>
      obtain ⟨a, vs, rfl, _, h1, h2⟩ := vw_tup h
      simp only [biD, Option.some.injEq] at ho; subst ho
      exact call_len pins s σ H _ us Q I r ⟨_, vs.length, rfl, .inr ⟨vs, .of h1, rfl⟩, q _ _ (.refl H) (by simp [Rl, h2.length])⟩
    | lst ds =>
      obtain ⟨a, vs, rfl, h1, h2⟩ := vw_sq h
      simp only [biD, Option.some.injEq] at ho; subst ho
      exact call_len pins s σ H _ us Q I r ⟨_, vs.length, rfl, .inl ⟨vs, .of h1, rfl⟩, q _ _ (.refl H) (by simp [Rl, h2.length])⟩
    | frz ds =>
      obtain ⟨a, vs, rfl, h1, h2⟩ := vw_frz h
      simp only [biD, Option.some.injEq] at ho; subst ho
      exact call_len pins s σ H _ us Q I r ⟨_, vs.length, rfl, .inl ⟨vs, h1, rfl⟩, q _ _ (.refl H) (by simp [Rl, h2.length])⟩
    | _ => simp [biD] at ho
  | [], ho, _ => simp [biD] at ho
  | _ :: _ :: _, ho, _ => simp [biD] at ho

/-! isinstance -/
def tyN : D → String
  | .non => "NoneType" | .bl _ => "bool" | .int _ => "int" | .str _ => "str" | .tup _ => "tuple" | .lst _ => "list"
  | _ => ""
theorem ty_of {m : Addr → Prop} {H : Hp} {d : D} {v : V} (e : isSome' d = true) (h : Vw X.K fa m H d v) : TyX X.K H v (.type (tyN d)) := by
  cases d with
  | non => rw [rl_non] at h; subst h; exact .base .non
  | bl b => rw [rl_bl] at h; subst h; exact .base (.bl b)
  | int i => rw [rl_int] at h; subst h; exact .base (.int i)
  | str z => rw [rl_str] at h; subst h; exact .base (.str _)
  | tup ds => obtain ⟨a, vs, rfl, _, h1, _⟩ := vw_tup h; exact .base (.tup h1)
  | lst ds => obtain ⟨a, vs, rfl, h1, _⟩ := vw_sq h; exact .base (.lst h1)
  | _ => simp [isSome'] at e
/-- isinstance(x, T) as the language has it -/
def isBi : String → Option Bi
  | "int" => some .isInt | "bool" => some .isBool | "str" => some .isStr | "tuple" => some .isTup | "list" => some .isList
  | _ => none
theorem kit_all (d : D) (e : isSome' d = true) :
    kitB (tyN d) "int" = some d.isInt ∧ kitB (tyN d) "bool" = some d.isBool ∧ kitB (tyN d) "str" = some d.isStr ∧ kitB (tyN d) "tuple" = some d.isTup ∧ kitB (tyN d) "list" = some d.isList := by
  cases d <;> simp only [isSome', Bool.false_eq_true] at e <;> simp only [tyN, D.isInt, D.isBool, D.isStr, D.isTup, D.isList] <;> refine ⟨?_, ?_, ?_, ?_, ?_⟩ <;> decide +kernel
theorem isi_ok {T : String} {b : Bi} (hb : isBi T = some b) : CallR X (.builtin "isinstance") (fun xs H Q => ∃ (m : Addr → Prop) (d r : D) (v : V), xs = [v, .ty T] ∧ Vw X.K fa m H d v ∧ biD b [d] = some r ∧ (∀ u, Rl X.K fa m H r u → Q u H)) := by
  intro pins s σ H xs us Q I r ⟨m, d, x, v, e, h, ho, q⟩
  subst e
  have key : isSome' d = true ∧ ∃ t, kitB (tyN d) T = some t ∧ x = .bl t := by
    unfold isBi at hb
    split at hb <;> simp only [Option.some.injEq, reduceCtorEq] at hb <;> subst hb <;> simp only [biD] at ho <;> split at ho <;> simp only [Option.some.injEq, reduceCtorEq] at ho <;> (rename_i hs; have k := kit_all d hs; subst ho)
    · exact ⟨hs, _, k.1, rfl⟩
    · exact ⟨hs, _, k.2.1, rfl⟩
    · exact ⟨hs, _, k.2.2.1, rfl⟩
    · exact ⟨hs, _, k.2.2.2.1, rfl⟩
    · exact ⟨hs, _, k.2.2.2.2, rfl⟩
  obtain ⟨hs, t, hk, rfl⟩ := key
  exact call_isi pins s σ H _ us Q I r ⟨v, .ty T, .type (tyN d), .type T, t, rfl, .ty T, ty_of hs h, kit_ty hk, q _ (by simp [Rl])⟩

/-! str -/
theorem digit_char {d : Nat} (h : d < 10) : (Nat.digitChar d).toNat = d + 48 := by
  have : d = 0 ∨ d = 1 ∨ d = 2 ∨ d = 3 ∨ d = 4 ∨ d = 5 ∨ d = 6 ∨ d = 7 ∨ d = 8 ∨ d = 9 := by omega
  rcases this with rfl | rfl | rfl | rfl | rfl | rfl | rfl | rfl | rfl | rfl <;> decide
theorem digits_core : ∀ (f n : Nat) (acc : List Char), (Nat.toDigitsCore 10 f n acc).map Char.toNat = digitsAux f n (acc.map Char.toNat)
  | 0, n, acc => by simp [Nat.toDigitsCore, digitsAux]
  | f + 1, n, acc => by
    rw [Nat.toDigitsCore, digitsAux]
    by_cases h : n < 10
    · have h0 : n / 10 = 0 := by omega
      have h1 : n % 10 = n := by omega
      simp [h, h0, h1, digit_char h]
    · have h0 : n / 10 ≠ 0 := by omega
      simp only [h, h0, if_false]
      rw [digits_core f (n / 10)]
      simp [digit_char (show n % 10 < 10 by omega)]
theorem str_nat (n : Nat) : Str.ofString (toString (n : Int)) = ⟨(digits n).toArray⟩ := by
  rw [Str.ofString_eq_toList]
  have e : toString (n : Int) = String.ofList (Nat.toDigits 10 n) := by
    show Int.repr (n : Int) = _
    simp [Int.repr, Nat.repr]
  rw [e, String.toList_ofList, Nat.toDigits, digits_core]
  rfl
theorem str_ok : CallR X (.type "str") (RBi X.K fa (biD .str)) := by
  intro pins s σ H xs us Q I r ⟨m, ds, x, dom, hv, ho, q⟩
  match ds, ho, hv with
  | [d], ho, hv =>
    obtain ⟨v, rfl, h⟩ := hv.one
    cases d with
    | int i =>
      rw [rl_int] at h
      simp only [biD] at ho
      split at ho
      · rename_i hl
        simp only [Option.some.injEq] at ho; subst ho h
        refine call_str_int pins s σ H _ us Q I r ⟨i, rfl, ?_, q _ _ (.refl H) ?_⟩
        · have h1 : i.natAbs < 2 ^ 34 := Nat.lt_of_lt_of_le (show i.natAbs < 10 ^ 10 by omega) (by decide)
          by_cases hz : i.natAbs = 0
          · rw [hz]; decide
          · exact Nat.lt_trans ((Nat.log2_lt hz).mpr h1) (by decide)
        · simp only [Rl]
          obtain ⟨n, rfl⟩ : ∃ n : Nat, i = n := ⟨i.toNat, by omega⟩
          rw [show (n : Int).toNat = n from by omega, ← str_nat]
      · cases ho
    | str z =>
      rw [rl_str] at h
      simp only [biD, Option.some.injEq] at ho; subst ho h
      exact SkE.call_str_str pins s σ H _ us Q I r ⟨_, rfl, q _ _ (.refl H) (by simp [Rl])⟩
    | _ => simp [biD] at ho
  | [], ho, _ => simp [biD] at ho
  | _ :: _ :: _, ho, _ => simp [biD] at ho

/-! all, tuple, sum, max -/
theorem bools_rls {m : Addr → Prop} {H : Hp} : ∀ {ds : List D} {bs : List Bool} {vs : List V}, boolsOf ds = some bs → Rls X.K fa m H ds vs → vs = bs.map V.bl
  | [], bs, vs, e, r => by simp only [boolsOf, Option.some.injEq] at e; subst e; exact r.nil
  | d :: ds, bs, vs, e, r => by
    cases d with
    | bl b =>
      simp only [boolsOf, Option.map_eq_some_iff] at e
      obtain ⟨cs, e1, rfl⟩ := e
      obtain ⟨v, us, rfl, h1, h2⟩ := r.uncons
      simp only [Rl] at h1; subst h1
      rw [bools_rls e1 h2]; rfl
    | _ => simp [boolsOf] at e
theorem ints_rls {m : Addr → Prop} {H : Hp} : ∀ {ds : List D} {bs : List Int} {vs : List V}, intsOf ds = some bs → Rls X.K fa m H ds vs → vs = bs.map V.int
  | [], bs, vs, e, r => by simp only [intsOf, Option.some.injEq] at e; subst e; exact r.nil
  | d :: ds, bs, vs, e, r => by
    cases d with
    | int b =>
      simp only [intsOf, Option.map_eq_some_iff] at e
      obtain ⟨cs, e1, rfl⟩ := e
      obtain ⟨v, us, rfl, h1, h2⟩ := r.uncons
      simp only [Rl] at h1; subst h1
      rw [ints_rls e1 h2]; rfl
    | _ => simp [intsOf] at e
theorem strs_rls {m : Addr → Prop} {H : Hp} : ∀ {ds : List D} {bs : List (List Nat)} {vs : List V}, strsOf ds = some bs → Rls X.K fa m H ds vs → vs = (bs.map fun z => (⟨z.toArray⟩ : Str)).map V.str
  | [], bs, vs, e, r => by simp only [strsOf, Option.some.injEq] at e; subst e; exact r.nil
  | d :: ds, bs, vs, e, r => by
    cases d with
    | str b =>
      simp only [strsOf, Option.map_eq_some_iff] at e
      obtain ⟨cs, e1, rfl⟩ := e
      obtain ⟨v, us, rfl, h1, h2⟩ := r.uncons
      simp only [Rl] at h1; subst h1
      rw [strs_rls e1 h2]; rfl
    | _ => simp [strsOf] at e
theorem all_ok (hc : X.calm = true) : CallR X (.builtin "all") (RBi X.K fa (biD .all)) := by
  intro pins s σ H xs us Q I r ⟨m, ds, x, dom, hv, ho, q⟩
  match ds, ho, hv with
  | [d], ho, hv =>
    obtain ⟨v, rfl, h⟩ := hv.one
    cases d with
    | lst ds =>
      obtain ⟨a, vs, rfl, h1, h2⟩ := vw_sq h
      simp only [biD, Option.map_eq_some_iff] at ho
      obtain ⟨bs, e1, rfl⟩ := ho
      have e := bools_rls e1 h2
      subst e
      exact cr_all hc pins s σ H _ us Q I r ⟨a, bs, rfl, .of h1, q _ _ (.refl H) (by simp [Rl])⟩
    | _ => simp [biD] at ho
  | [], ho, _ => simp [biD] at ho
  | _ :: _ :: _, ho, _ => simp [biD] at ho
theorem sum_ok (hc : X.calm = true) : CallR X (.builtin "sum") (RBi X.K fa (biD .sum)) := by
  intro pins s σ H xs us Q I r ⟨m, ds, x, dom, hv, ho, q⟩
  match ds, ho, hv with
  | [d], ho, hv =>
    obtain ⟨v, rfl, h⟩ := hv.one
    cases d with
    | lst ds =>
      obtain ⟨a, vs, rfl, h1, h2⟩ := vw_sq h
      simp only [biD, Option.map_eq_some_iff] at ho
      obtain ⟨bs, e1, rfl⟩ := ho
      have e := ints_rls e1 h2
      subst e
      exact cr_sum hc pins s σ H _ us Q I r ⟨a, bs, rfl, .of h1, q _ _ (.refl H) (by simp [Rl])⟩
    | _ => simp [biD] at ho
  | [], ho, _ => simp [biD] at ho
  | _ :: _ :: _, ho, _ => simp [biD] at ho
theorem tuple_ok : CallR X (.type "tuple") (RBi X.K fa (biD .tuple)) := by
  intro pins s σ H xs us Q I r ⟨m, ds, x, dom, hv, ho, q⟩
  match ds, ho, hv with
  | [d], ho, hv =>
    obtain ⟨v, rfl, h⟩ := hv.one
    cases d with
    | lst ds =>
      obtain ⟨a, vs, rfl, h1, h2⟩ := vw_sq h
      simp only [biD, Option.some.injEq] at ho; subst ho
      exact call_tuple_of pins s σ H _ us Q I r ⟨a, vs, rfl, .inl ⟨.of h1, fun l nl => q _ _ (same_upd nl) (.newT dom nl h2)⟩⟩
    | tup ds =>
      simp only [biD, Option.some.injEq] at ho; subst ho
      have h' := vw_tup h
      obtain ⟨a, vs, rfl, _, h1, h2⟩ := h'
      exact call_tuple_of pins s σ H _ us Q I r ⟨a, vs, rfl, .inr ⟨.of h1, q _ _ (.refl H) h⟩⟩
    | _ => simp [biD] at ho
  | [], ho, _ => simp [biD] at ho
  | _ :: _ :: _, ho, _ => simp [biD] at ho
theorem max2_ok (hc : X.calm = true) : CallR X (.builtin "max") (RBi X.K fa (biD .max2)) := by
  intro pins s σ H xs us Q I r ⟨m, ds, x, dom, hv, ho, q⟩
  match ds, ho, hv with
  | [d, e], ho, hv =>
    obtain ⟨v, u, rfl, h1, h2⟩ := hv.two
    cases d <;> cases e <;> simp only [biD, reduceCtorEq, Option.some.injEq] at ho
    rw [rl_int] at h1 h2; subst ho h1 h2
    exact call_max2 hc pins s σ H _ us Q I r ⟨_, _, rfl, q _ _ (.refl H) (by simp [Rl])⟩
  | [], ho, _ => simp [biD] at ho
  | [_], ho, _ => simp [biD] at ho
  | _ :: _ :: _ :: _, ho, _ => simp [biD] at ho

/-! list.index(True) -/
theorem flat_bls (bs : List Bool) : (bs.map V.bl).all flatV = true := by simp [flatV]
theorem index_ok : MtR X "list.index" (fun x xs H Q => ∃ (m : Addr → Prop) (d r : D), xs = [.bl true] ∧ Vw X.K fa m H d x ∧ biD .indexTrue [d] = some r ∧ ∀ u, Rl X.K fa m H r u → Q u H) := by
  intro pins s σ H x xs v us Q I r rv ⟨m, d, z, e, h, ho, q⟩
  subst e
  cases d with
  | lst ds =>
    obtain ⟨a, vs, rfl, h1, h2⟩ := vw_sq h
    simp only [biD, Option.bind_eq_some_iff] at ho
    obtain ⟨bs, e1, e2⟩ := ho
    split at e2
    · rename_i hany
      simp only [Option.some.injEq] at e2; subst e2
      have e := bools_rls e1 h2
      subst e
      have hlt : bs.findIdx id < bs.length := List.findIdx_lt_length.mpr (by simpa using hany)
      refine mt_index pins s σ H _ _ v us Q I r rv ⟨a, bs.map V.bl, .bl true, bs.findIdx id, .bl true, rfl, rfl, .of h1, rfl, flat_bls bs, ?_, rfl, fun k z' hk hz => ?_, q _ (by simp [Rl])⟩
      · rw [List.getElem?_map, List.getElem?_eq_getElem hlt]
        have := List.findIdx_getElem (xs := bs) (p := id) (w := hlt)
        simp only [id] at this
        simp [this]
      · rw [List.getElem?_map] at hz
        cases q2 : bs[k]? with
        | none => rw [q2] at hz; simp at hz
        | some b =>
          rw [q2] at hz
          simp only [Option.map_some, Option.some.injEq] at hz; subst hz
          have := List.not_of_lt_findIdx (xs := bs) (p := id) hk
          obtain ⟨hk', e3⟩ := List.getElem?_eq_some_iff.mp q2
          rw [e3] at this
          simp at this; subst this
          rfl
    · cases e2
  | _ => simp [biD] at ho
end
end G

set_option Elab.async false
set_option linter.all false
set_option autoImplicit false
set_option maxRecDepth 100000
set_option maxHeartbeats 4000000
/-! Soundness, part 5: readings, and a rule for each kind of node. -/
namespace G
open PySem PySem.Spec PyProof.Rows L2

abbrev XP := Nat → Hp → Prop
abbrev StV := L2.St
section
variable (K : PySem.W.Frag) (fa : FW)
def Sls (ρ : Rho) (H : Hp) (σ : Sl) (σV : StV) : Prop := σ.length = σV.length ∧ ∀ (i : Nat) (w : W), σ[i]? = some (some w) → ∃ v, σV[i]? = some (some v) ∧ RlW K fa ρ H w v
def Post {α β : Type} (XE : XP) (ρ : Rho) (H : Hp) (r : R α) (rel : Rho → Hp → α → β → Prop) (Q : β → Hp → Prop) : Prop := match r with
  | .ok a M' => ∀ ρ' H' b, To ρ H ρ' H' → Rep K fa ρ' H' M' → rel ρ' H' a b → Q b H'
  | .exc c M' => ∀ ρ' H', To ρ H ρ' H' → Rep K fa ρ' H' M' → XE c H'
  | .bad => False
def RlWs (ρ : Rho) (H : Hp) : List W → List V → Prop
  | [], vs => vs = []
  | w :: ws, vs => ∃ v r, vs = v :: r ∧ RlW K fa ρ H w v ∧ RlWs ρ H ws r
def rdE (XE : XP) (ev : Sl → Mem → R W) : TE := fun σV H Q => ∃ ρ σ M, Sls K fa ρ H σ σV ∧ Rep K fa ρ H M ∧ Post K fa XE ρ H (ev σ M) (RlW K fa) Q
def rdA (XE : XP) (ev : Sl → Mem → R (List W)) : TA := fun σV H Q => ∃ ρ σ M, Sls K fa ρ H σ σV ∧ Rep K fa ρ H M ∧ Post K fa XE ρ H (ev σ M) (RlWs K fa) Q
def rdDs (XE : XP) (ev : Sl → Mem → R (List D)) : TA := fun σV H Q => ∃ ρ σ M, Sls K fa ρ H σ σV ∧ Rep K fa ρ H M ∧ Post K fa XE ρ H (ev σ M) (fun ρ H ds vs => Rls K fa (mu ρ) H ds vs) Q
end
def R.toB (r : R W) : R Bool := match r with
  | .ok (.d (.bl b)) M => .ok b M
  | .ok _ _ => .bad
  | .exc c M => .exc c M
  | .bad => .bad
section
variable (K : PySem.W.Frag) (fa : FW)
def rdT (XE : XP) (ev : Sl → Mem → R W) : TT := fun σV H Q => ∃ ρ σ M, Sls K fa ρ H σ σV ∧ Rep K fa ρ H M ∧ Post K fa XE ρ H (ev σ M).toB (fun _ _ a b => b = a) Q

variable {K fa}
theorem Sls.to {ρ ρ' : Rho} {H H' : Hp} (t : To ρ H ρ' H') {σ : Sl} {σV : StV} (h : Sls K fa ρ H σ σV) : Sls K fa ρ' H' σ σV :=
  ⟨h.1, fun i w e => let ⟨v, e1, r⟩ := h.2 i w e; ⟨v, e1, r.to t⟩⟩
theorem RlWs.to {ρ ρ' : Rho} {H H' : Hp} (t : To ρ H ρ' H') : ∀ {ws : List W} {vs : List V}, RlWs K fa ρ H ws vs → RlWs K fa ρ' H' ws vs
  | [], _, h => h
  | w :: ws, _, ⟨v, r, e, h1, h2⟩ => ⟨v, r, e, h1.to t, RlWs.to t h2⟩
theorem Post.from {α β : Type} {XE : XP} {ρ ρ' : Rho} {H H' : Hp} {r : R α} {rel : Rho → Hp → α → β → Prop} {Q : β → Hp → Prop} (h : Post K fa XE ρ H r rel Q) (t : To ρ H ρ' H') : Post K fa XE ρ' H' r rel Q := by
  cases r with
  | ok a M => exact fun ρ2 H2 b t2 rp rl => h ρ2 H2 b (t.trans t2) rp rl
  | exc c M => exact fun ρ2 H2 t2 rp => h ρ2 H2 (t.trans t2) rp
  | bad => exact h
theorem Post.mono {α β : Type} {XE : XP} {ρ : Rho} {H : Hp} {r : R α} {rel : Rho → Hp → α → β → Prop} {Q Q' : β → Hp → Prop} (h : Post K fa XE ρ H r rel Q) (w : ∀ b H', Q b H' → Q' b H') : Post K fa XE ρ H r rel Q' := by
  cases r with
  | ok a M => exact fun ρ2 H2 b t2 rp rl => w _ _ (h ρ2 H2 b t2 rp rl)
  | exc c M => exact h
  | bad => exact h
theorem Post.bind {α β γ δ : Type} {XE : XP} {ρ : Rho} {H : Hp} {r : R α} {f : α → Mem → R γ} {rel : Rho → Hp → α → β → Prop} {rel2 : Rho → Hp → γ → δ → Prop} {Q : δ → Hp → Prop} (h : Post K fa XE ρ H (r.bind f) rel2 Q) :
    Post K fa XE ρ H r rel (fun b H1 => ∃ a ρ1 M1, To ρ H ρ1 H1 ∧ Rep K fa ρ1 H1 M1 ∧ rel ρ1 H1 a b ∧ Post K fa XE ρ1 H1 (f a M1) rel2 Q) := by
  cases r with
  | ok a M => exact fun ρ2 H2 b t2 rp rl => ⟨a, ρ2, M, t2, rp, rl, Post.from h t2⟩
  | exc c M => exact h
  | bad => exact h
theorem Post.ok {α β : Type} {XE : XP} {ρ : Rho} {H : Hp} {a : α} {M : Mem} {b : β} {rel : Rho → Hp → α → β → Prop} {Q : β → Hp → Prop} (h : Post K fa XE ρ H (.ok a M) rel Q) (rp : Rep K fa ρ H M) (rl : rel ρ H a b) : Q b H := h ρ H b (.refl ρ H) rp rl
/-- an operation by values, behind which only new things are laid -/
theorem Post.val {XE : XP} {ρ : Rho} {H : Hp} {o : Option D} {M : Mem} {Q : VK} (h : Post K fa XE ρ H (ofO o fun z => .ok (.d z) M) (RlW K fa) Q) (rp : Rep K fa ρ H M) :
    ∃ z, o = some z ∧ ∀ v H', Same H H' → Rl K fa (mu ρ) H' z v → Q v H' := by
  cases o with
  | none => exact h.elim
  | some z => exact ⟨z, rfl, fun v H' s r => h ρ H' v (.same rp s) (rp.same s) r⟩
theorem Post.of {α β γ : Type} {XE : XP} {ρ : Rho} {H : Hp} {o : Option α} {f : α → R γ} {rel : Rho → Hp → γ → β → Prop} {Q : β → Hp → Prop} (h : Post K fa XE ρ H (ofO o f) rel Q) : ∃ a, o = some a ∧ Post K fa XE ρ H (f a) rel Q := by
  cases o with
  | none => exact h.elim
  | some a => exact ⟨a, rfl, h⟩
end

section
variable {X : Cx} {fa : FW} {XE : XP} {a b c : Expr} {pos : Pos} {ea eb ec : Sl → Mem → R W}
theorem pe_of {e : Expr} {t t' : TE} (h : PE X e t) (w : ∀ σ H Q, t' σ H Q → t σ H Q) : PE X e t' := ⟨fun pins s σ H Q I q => h.run pins s σ H Q I (w σ H Q q)⟩
theorem pt_of {e : Expr} {t t' : TT} (h : PT X e t) (w : ∀ σ H Q, t' σ H Q → t σ H Q) : PT X e t' := ⟨fun pins s σ H Q I q => h.run pins s σ H Q I (w σ H Q q)⟩
theorem pw_of {e : Expr} {t t' : TT} (h : PW X e t) (w : ∀ σ H Q, t' σ H Q → t σ H Q) : PW X e t' := ⟨fun wh pins s σ H Q I q => h.run wh pins s σ H Q I (w σ H Q q)⟩
theorem pa_of {e : List Expr} {t t' : TA} (h : PA X e t) (w : ∀ σ H Q, t' σ H Q → t σ H Q) : PA X e t' := ⟨fun p pins s σ H Q I q => h.run p pins s σ H Q I (w σ H Q q)⟩
theorem ps_of {st : Stmt} {t t' : TS} (h : PS X st t) (w : ∀ D σ H, t' D σ H → t D σ H) : PS X st t' := ⟨fun pins s σ H D I q => h.run pins s σ H D I (w D σ H q)⟩
theorem pss_of {st : List Stmt} {t t' : TS} (h : PSs X st t) (w : ∀ D σ H, t' D σ H → t D σ H) : PSs X st t' := ⟨fun pins s σ H D I q => h.run pins s σ H D I (w D σ H q)⟩

/-! ### constants, names -/
theorem r_const {e : Expr} {v : V} {x : D} (h : PE X e (tC v)) (r : ∀ m H, Rl X.K fa m H x v) : PE X e (rdE X.K fa XE fun _ M => .ok (.d x) M) :=
  pe_of h fun σ H Q ⟨ρ, σ', M, _, rp, q⟩ => q.ok rp (r _ _)
theorem r_var {x : Str} {i : Nat} (h : PE X (.Name x pos) (tVar i)) : PE X (.Name x pos) (rdE X.K fa XE fun σ M => match σ[i]? with
    | some (some w) => .ok w M
    | _ => .bad) :=
  pe_of h fun σV H Q ⟨ρ, σ, M, sl, rp, q⟩ => by
    cases e : σ[i]? with
    | none => simp only [e] at q; exact q.elim
    | some o =>
      cases o with
      | none => simp only [e] at q; exact q.elim
      | some w =>
        simp only [e] at q
        obtain ⟨v, e1, r⟩ := sl.2 i w e
        exact ⟨v, e1, q.ok rp r⟩

/-! ### two expressions and an operation by values -/
def ev2 (o : D → D → Option D) (ea eb : Sl → Mem → R W) : Sl → Mem → R W := fun σ M => (ea σ M).bind fun w M => (eb σ M).bind fun w' M => ofO (asD M w) fun x => ofO (asD M w') fun y => ofO (o x y) fun z => .ok (.d z) M
theorem t_op {f : D → D → Option D} {σ : StV} {H : Hp} {Q : VK} (q : rdE X.K fa XE (ev2 f ea eb) σ H Q) : tOp (ROp X.K fa f) (rdE X.K fa XE ea) (rdE X.K fa XE eb) σ H Q := by
  obtain ⟨ρ, σ', M, sl, rp, q⟩ := q
  refine ⟨ρ, σ', M, sl, rp, (Post.bind q).mono fun v H1 ⟨w, ρ1, M1, t1, rp1, rl1, q1⟩ => ?_⟩
  refine ⟨ρ1, σ', M1, sl.to t1, rp1, (Post.bind q1).mono fun u H2 ⟨w', ρ2, M2, t2, rp2, rl2, q2⟩ => ?_⟩
  obtain ⟨x, e1, q2⟩ := Post.of q2
  obtain ⟨y, e2, q2⟩ := Post.of q2
  obtain ⟨z, e3, q2⟩ := Post.val q2 rp2
  exact ⟨mu ρ2, x, y, z, fun a h => rp2.dom h, (rl1.to t2).vw rp2 e1, rl2.vw rp2 e2, e3, q2⟩
theorem r_bin {o : D → D → Option D} {po : Operator} (ho : OpR X (binaryOp po) (ROp X.K fa o)) (ha : PE X a (rdE X.K fa XE ea)) (hb : PE X b (rdE X.K fa XE eb)) : PE X (.BinOp a po b pos) (rdE X.K fa XE (ev2 o ea eb)) :=
  pe_of (pe_op ho ha hb) fun _ _ _ q => t_op q
theorem r_cmp {o : D → D → Option D} {co : CmpOp} (ho : OpR X (compareOp co) (ROp X.K fa o)) (ha : PE X a (rdE X.K fa XE ea)) (hb : PE X b (rdE X.K fa XE eb)) (hm : behindInMarks co b = false) : PE X (.Compare a [co] [b] pos) (rdE X.K fa XE (ev2 o ea eb)) :=
  pe_of (pe_cmpR ho ha hb hm) fun _ _ _ q => t_op q
theorem r_ix (hp : fa.p = X.prog) (hw : fa.w = X.w) (hu : X.A.units + 65 < cLine) (ha : PE X a (rdE X.K fa XE ea)) (hb : PE X b (rdE X.K fa XE eb)) (hs : PlainIx b) : PE X (.Subscript a b pos) (rdE X.K fa XE (ev2 ixD ea eb)) :=
  pe_of (pe_ix (ix_ok hp hw hu) ha hb hs) fun _ _ _ q => t_op q
/-- from a value's reading to a test's -/
theorem t_test {ev : Sl → Mem → R W} {σ : StV} {H : Hp} {Q : Bool → Hp → Prop} (q : rdT X.K fa XE ev σ H Q) : rdE X.K fa XE ev σ H fun x H' => ∃ k, x = .bl k ∧ Q k H' := by
  obtain ⟨ρ, σ', M, sl, rp, q⟩ := q
  refine ⟨ρ, σ', M, sl, rp, ?_⟩
  revert q
  cases ev σ' M with
  | ok w M1 =>
    intro q ρ2 H2 v t2 rp2 rl
    cases w with
    | d x =>
      cases x with
      | bl k => exact ⟨k, rl, q ρ2 H2 k t2 rp2 rfl⟩
      | _ => exact q.elim
    | _ => exact q.elim
  | exc c M1 => exact fun q => q
  | bad => exact fun q => q
theorem r_cmpT {o : D → D → Option D} {co : CmpOp} (ho : OpR X (compareOp co) (ROp X.K fa o)) (ha : PE X a (rdE X.K fa XE ea)) (hb : PE X b (rdE X.K fa XE eb)) (hm : behindInMarks co b = false) : PT X (.Compare a [co] [b] pos) (rdT X.K fa XE (ev2 o ea eb)) :=
  pt_of (pt_cmpR ho ha hb hm) fun _ _ _ q => t_op (t_test q)
theorem r_val {e : Expr} {ev : Sl → Mem → R W} (h : PE X e (rdE X.K fa XE ev)) (he : ∀ whole, isTrue e X.env whole = (do let v ← whole; standAt e.pos; holding [v] (truthy v))) : PT X e (rdT X.K fa XE ev) :=
  pt_of (pt_val h he) fun _ _ _ q => t_test q

/-! ### chains -/
def evC (o o' : D → D → Option D) (ea eb ec : Sl → Mem → R W) : Sl → Mem → R W := fun σ M => (ea σ M).bind fun w M => (eb σ M).bind fun w' M => ofO (asD M w) fun x => ofO (asD M w') fun y => match o x y with
    | some (.bl true) => (ec σ M).bind fun w3 M => ofO (asD M w') fun y => ofO (asD M w3) fun z => ofO (o' y z) fun r => .ok (.d r) M
    | some (.bl false) => .ok (.d (.bl false)) M
    | _ => .bad
theorem t_chain {o o' : D → D → Option D} {σ : StV} {H : Hp} {Q : VK} (q : rdE X.K fa XE (evC o o' ea eb ec) σ H Q) :
    tChain (ROp X.K fa o) (ROp X.K fa o') (rdE X.K fa XE ea) (rdE X.K fa XE eb) (rdE X.K fa XE ec) σ H Q := by
  obtain ⟨ρ, σ', M, sl, rp, q⟩ := q
  refine ⟨ρ, σ', M, sl, rp, (Post.bind q).mono fun v H1 ⟨w, ρ1, M1, t1, rp1, rl1, q1⟩ => ?_⟩
  refine ⟨ρ1, σ', M1, sl.to t1, rp1, (Post.bind q1).mono fun u H2 ⟨w', ρ2, M2, t2, rp2, rl2, q2⟩ => ?_⟩
  obtain ⟨x, e1, q2⟩ := Post.of q2
  obtain ⟨y, e2, q2⟩ := Post.of q2
  have sl2 := (sl.to t1).to t2
  cases e3 : o x y with
  | none => simp only [e3] at q2; exact q2.elim
  | some r =>
    cases r with
    | bl k =>
      refine ⟨mu ρ2, x, y, .bl k, fun a h => rp2.dom h, (rl1.to t2).vw rp2 e1, rl2.vw rp2 e2, e3, fun v3 H3 s3 r3 => ?_⟩
      simp only [Rl] at r3; subst r3
      refine ⟨k, rfl, ?_⟩
      have t3 : To ρ2 H2 ρ2 H3 := .same rp2 s3
      cases k with
      | false =>
        simp only [e3] at q2
        exact iteF (q2 ρ2 H3 _ t3 (rp2.same s3) (by simp [RlW, Rl]))
      | true =>
        simp only [e3] at q2
        refine iteT ⟨ρ2, σ', M2, sl2.to t3, rp2.same s3, (Post.bind (q2.from t3)).mono fun v4 H4 ⟨w4, ρ4, M4, t4, rp4, rl4, q4⟩ => ?_⟩
        obtain ⟨y', e4, q4⟩ := Post.of q4
        obtain ⟨z, e5, q4⟩ := Post.of q4
        obtain ⟨r', e6, q4⟩ := Post.val q4 rp4
        exact ⟨mu ρ4, y', z, r', fun a h => rp4.dom h, ((rl2.to t3).to t4).vw rp4 e4, rl4.vw rp4 e5, e6, q4⟩
    | _ => simp only [e3] at q2; exact q2.elim
theorem r_chain {o o' : D → D → Option D} {co co' : CmpOp} (ho : OpR X (compareOp co) (ROp X.K fa o)) (ho' : OpR X (compareOp co') (ROp X.K fa o')) (ha : PE X a (rdE X.K fa XE ea)) (hb : PE X b (rdE X.K fa XE eb)) (hc : PE X c (rdE X.K fa XE ec))
    (hm : lastMarks [co, co'] [b, c] = false) : PE X (.Compare a [co, co'] [b, c] pos) (rdE X.K fa XE (evC o o' ea eb ec)) :=
  pe_of (pe_chain ho ho' ha hb hc hm) fun _ _ _ q => t_chain q
theorem r_chainT {o o' : D → D → Option D} {co co' : CmpOp} (ho : OpR X (compareOp co) (ROp X.K fa o)) (ho' : OpR X (compareOp co') (ROp X.K fa o')) (ha : PE X a (rdE X.K fa XE ea)) (hb : PE X b (rdE X.K fa XE eb)) (hc : PE X c (rdE X.K fa XE ec))
    (hm : lastMarks [co, co'] [b, c] = false) : PT X (.Compare a [co, co'] [b, c] pos) (rdT X.K fa XE (evC o o' ea eb ec)) :=
  pt_of (pt_chain ho ho' ha hb hc hm) fun _ _ _ q => t_chain (t_test q)

/-! ### not, and, or, if -/
def evNot (ea : Sl → Mem → R W) : Sl → Mem → R W := fun σ M => (ea σ M).bind fun w M => match w with
    | .d (.bl b) => .ok (.d (.bl (!b))) M
    | _ => .bad
theorem r_not (ha : PE X a (rdE X.K fa XE ea)) : PE X (.UnaryOp .Not a pos) (rdE X.K fa XE (evNot ea)) :=
  pe_of (pe_not ha) fun σ H Q ⟨ρ, σ', M, sl, rp, q⟩ => by
    refine ⟨ρ, σ', M, sl, rp, (Post.bind q).mono fun v H1 ⟨w, ρ1, M1, t1, rp1, rl1, q1⟩ => ?_⟩
    cases w with
    | d x => cases x with
      | bl k => exact ⟨k, rl1, q1.ok rp1 (by simp [RlW, Rl])⟩
      | _ => exact q1.elim
    | _ => exact q1.elim
theorem r_notT (ha : PT X a (rdT X.K fa XE ea)) : PT X (.UnaryOp .Not a pos) (rdT X.K fa XE (evNot ea)) :=
  pt_of (pt_not ha) fun σ H Q ⟨ρ, σ', M, sl, rp, q⟩ => by
    refine ⟨ρ, σ', M, sl, rp, ?_⟩
    unfold evNot at q
    revert q
    cases ea σ' M with
    | ok w M1 =>
      cases w with
      | d x => cases x with
        | bl k => exact fun q ρ2 H2 b t2 rp2 e => by subst e; exact q ρ2 H2 _ t2 rp2 rfl
        | _ => exact fun q => q.elim
      | _ => exact fun q => q.elim
    | exc c M1 => exact fun q => q
    | bad => exact fun q => q
def evAnd2 (ea eb : Sl → Mem → R W) : Sl → Mem → R W := fun σ M => (ea σ M).bind fun w M => match w with
    | .d (.bl true) => eb σ M
    | .d (.bl false) => .ok (.d (.bl false)) M
    | _ => .bad
def evOr2 (ea eb : Sl → Mem → R W) : Sl → Mem → R W := fun σ M => (ea σ M).bind fun w M => match w with
    | .d (.bl true) => .ok (.d (.bl true)) M
    | .d (.bl false) => eb σ M
    | _ => .bad
variable {rest : List Expr}
theorem r_and (ha : PE X a (rdE X.K fa XE ea)) (hb : PE X (.BoolOp .And (b :: rest) pos) (rdE X.K fa XE eb)) : PE X (.BoolOp .And (a :: b :: rest) pos) (rdE X.K fa XE (evAnd2 ea eb)) :=
  pe_of (pe_and ha hb) fun σ H Q ⟨ρ, σ', M, sl, rp, q⟩ => by
    refine ⟨ρ, σ', M, sl, rp, (Post.bind q).mono fun v H1 ⟨w, ρ1, M1, t1, rp1, rl1, q1⟩ => ?_⟩
    cases w with
    | d x => cases x with
      | bl k =>
        cases k with
        | true => exact ⟨true, rl1, iteT ⟨ρ1, σ', M1, sl.to t1, rp1, q1⟩⟩
        | false => exact ⟨false, rl1, iteF (q1.ok rp1 (by simp [RlW, Rl]))⟩
      | _ => exact q1.elim
    | _ => exact q1.elim
theorem r_or (ha : PE X a (rdE X.K fa XE ea)) (hb : PE X (.BoolOp .Or (b :: rest) pos) (rdE X.K fa XE eb)) : PE X (.BoolOp .Or (a :: b :: rest) pos) (rdE X.K fa XE (evOr2 ea eb)) :=
  pe_of (pe_or ha hb) fun σ H Q ⟨ρ, σ', M, sl, rp, q⟩ => by
    refine ⟨ρ, σ', M, sl, rp, (Post.bind q).mono fun v H1 ⟨w, ρ1, M1, t1, rp1, rl1, q1⟩ => ?_⟩
    cases w with
    | d x => cases x with
      | bl k =>
        cases k with
        | false => exact ⟨false, rl1, iteF ⟨ρ1, σ', M1, sl.to t1, rp1, q1⟩⟩
        | true => exact ⟨true, rl1, iteT (q1.ok rp1 (by simp [RlW, Rl]))⟩
      | _ => exact q1.elim
    | _ => exact q1.elim
theorem toB_bind {α : Type} {β : Type} {ρ : Rho} {H : Hp} {r : R W} {f g : Mem → R α} {rel : Rho → Hp → α → β → Prop} {Q : β → Hp → Prop}
    (q : Post X.K fa XE ρ H (r.bind fun w M => match w with
      | .d (.bl true) => f M
      | .d (.bl false) => g M
      | _ => .bad) rel Q) :
    Post X.K fa XE ρ H r.toB (fun _ _ a b => b = a) fun k H1 => ∃ ρ1 M1, To ρ H ρ1 H1 ∧ Rep X.K fa ρ1 H1 M1 ∧ if k = true then Post X.K fa XE ρ1 H1 (f M1) rel Q else Post X.K fa XE ρ1 H1 (g M1) rel Q := by
  cases r with
  | ok w M1 =>
    cases w with
    | d x => cases x with
      | bl k =>
        cases k with
        | true => exact fun ρ2 H2 b t2 rp2 e => by subst e; exact ⟨ρ2, M1, t2, rp2, iteT (Post.from q t2)⟩
        | false => exact fun ρ2 H2 b t2 rp2 e => by subst e; exact ⟨ρ2, M1, t2, rp2, iteF (Post.from q t2)⟩
      | _ => exact q.elim
    | _ => exact q.elim
  | exc c M1 => exact q
  | bad => exact q
theorem toB_eq (r : R W) (f g : Mem → R W) : (r.bind fun w M => match w with
      | .d (.bl true) => f M
      | .d (.bl false) => g M
      | _ => .bad).toB = r.bind fun w M => match w with
      | .d (.bl true) => (f M).toB
      | .d (.bl false) => (g M).toB
      | _ => .bad := by
  cases r with
  | ok w M1 =>
    cases w with
    | d x => cases x with
      | bl k => cases k <;> rfl
      | _ => rfl
    | _ => rfl
  | exc c M1 => rfl
  | bad => rfl
theorem r_andT (ha : PT X a (rdT X.K fa XE ea)) (hb : PW X (.BoolOp .And (b :: rest) pos) (rdT X.K fa XE eb)) : PW X (.BoolOp .And (a :: b :: rest) pos) (rdT X.K fa XE (evAnd2 ea eb)) :=
  pw_of (pw_and ha hb) fun σ H Q ⟨ρ, σ', M, sl, rp, q⟩ => by
    unfold evAnd2 at q
    rw [toB_eq (ea σ' M) (fun M => eb σ' M) (fun M => .ok (.d (.bl false)) M)] at q
    refine ⟨ρ, σ', M, sl, rp, (toB_bind q).mono fun k H1 ⟨ρ1, M1, t1, rp1, q1⟩ => ?_⟩
    cases k with
    | true => exact iteT ⟨ρ1, σ', M1, sl.to t1, rp1, by simpa using q1⟩
    | false =>
      have q2 : Post X.K fa XE ρ1 H1 (R.toB (.ok (.d (.bl false)) M1)) (fun _ _ a b => b = a) Q := by simpa using q1
      exact iteF (q2 ρ1 H1 false (.refl _ _) rp1 rfl)
theorem r_orT (ha : PT X a (rdT X.K fa XE ea)) (hb : PW X (.BoolOp .Or (b :: rest) pos) (rdT X.K fa XE eb)) : PW X (.BoolOp .Or (a :: b :: rest) pos) (rdT X.K fa XE (evOr2 ea eb)) :=
  pw_of (pw_or ha hb) fun σ H Q ⟨ρ, σ', M, sl, rp, q⟩ => by
    unfold evOr2 at q
    rw [toB_eq (ea σ' M) (fun M => .ok (.d (.bl true)) M) (fun M => eb σ' M)] at q
    refine ⟨ρ, σ', M, sl, rp, (toB_bind q).mono fun k H1 ⟨ρ1, M1, t1, rp1, q1⟩ => ?_⟩
    cases k with
    | false => exact iteF ⟨ρ1, σ', M1, sl.to t1, rp1, by simpa using q1⟩
    | true =>
      have q2 : Post X.K fa XE ρ1 H1 (R.toB (.ok (.d (.bl true)) M1)) (fun _ _ a b => b = a) Q := by simpa using q1
      exact iteT (q2 ρ1 H1 true (.refl _ _) rp1 rfl)
def evIf (ec ea eb : Sl → Mem → R W) : Sl → Mem → R W := fun σ M => (ec σ M).bind fun w M => match w with
    | .d (.bl true) => ea σ M
    | .d (.bl false) => eb σ M
    | _ => .bad
theorem r_ife (hc : PT X c (rdT X.K fa XE ec)) (ha : PE X a (rdE X.K fa XE ea)) (hb : PE X b (rdE X.K fa XE eb)) : PE X (.IfExp c a b pos) (rdE X.K fa XE (evIf ec ea eb)) :=
  pe_of (pe_ifExp hc ha hb) fun σ H Q ⟨ρ, σ', M, sl, rp, q⟩ => by
    refine ⟨ρ, σ', M, sl, rp, (toB_bind (f := fun M => ea σ' M) (g := fun M => eb σ' M) q).mono fun k H1 ⟨ρ1, M1, t1, rp1, q1⟩ => ?_⟩
    cases k with
    | true => exact iteT ⟨ρ1, σ', M1, sl.to t1, rp1, by simpa using q1⟩
    | false => exact iteF ⟨ρ1, σ', M1, sl.to t1, rp1, by simpa using q1⟩

/-! ### argument lists, displays -/
variable {e : Expr} {es : List Expr} {evs : Sl → Mem → R (List W)} {evd : Sl → Mem → R (List D)} {ee : Sl → Mem → R W}
theorem r_nil : PA X [] (rdA X.K fa XE fun _ M => .ok [] M) := pa_of pa_nil fun σ H Q ⟨ρ, σ', M, sl, rp, q⟩ => q.ok rp rfl
theorem r_cons (ha : PE X e (rdE X.K fa XE ee)) (hr : PA X es (rdA X.K fa XE evs)) (hs : starEach (e :: es) X.env = (false, eval e X.env) :: starEach es X.env) :
    PA X (e :: es) (rdA X.K fa XE fun σ M => (ee σ M).bind fun w M => (evs σ M).bind fun ws M => .ok (w :: ws) M) :=
  pa_of (pa_cons ha hr hs) fun σ H Q ⟨ρ, σ', M, sl, rp, q⟩ => by
    refine ⟨ρ, σ', M, sl, rp, (Post.bind q).mono fun v H1 ⟨w, ρ1, M1, t1, rp1, rl1, q1⟩ => ?_⟩
    refine ⟨ρ1, σ', M1, sl.to t1, rp1, (Post.bind q1).mono fun vs H2 ⟨ws, ρ2, M2, t2, rp2, rl2, q2⟩ => ?_⟩
    exact q2.ok rp2 ⟨v, vs, rfl, rl1.to t2, rl2⟩
theorem r_nilD : PA X [] (rdDs X.K fa XE fun _ M => .ok [] M) := pa_of pa_nil fun σ H Q ⟨ρ, σ', M, sl, rp, q⟩ => q.ok rp (by simp [Rls])
theorem r_consD (ha : PE X e (rdE X.K fa XE ee)) (hr : PA X es (rdDs X.K fa XE evd)) (hs : starEach (e :: es) X.env = (false, eval e X.env) :: starEach es X.env) :
    PA X (e :: es) (rdDs X.K fa XE fun σ M => (ee σ M).bind fun w M => (evd σ M).bind fun ds M => match w with
      | .d x => .ok (x :: ds) M
      | _ => .bad) :=
  pa_of (pa_cons ha hr hs) fun σ H Q ⟨ρ, σ', M, sl, rp, q⟩ => by
    refine ⟨ρ, σ', M, sl, rp, (Post.bind q).mono fun v H1 ⟨w, ρ1, M1, t1, rp1, rl1, q1⟩ => ?_⟩
    refine ⟨ρ1, σ', M1, sl.to t1, rp1, (Post.bind (rel := fun ρ H ds vs => Rls X.K fa (mu ρ) H ds vs) q1).mono fun vs H2 ⟨ds, ρ2, M2, t2, rp2, rl2, q2⟩ => ?_⟩
    cases w with
    | d x => exact q2.ok rp2 (.cons (Rl.keep t2.keep rl1) rl2)
    | _ => exact q2.elim
theorem r_tup {k : Nat} (h : PA X es (rdDs X.K fa XE evd)) (hl : es.length ≤ line) (hlen : ∀ σ M ds M', evd σ M = .ok ds M' → ds.length = es.length) : PE X (.Tuple es k pos) (rdE X.K fa XE fun σ M => (evd σ M).bind fun ds M => .ok (.d (.tup ds)) M) :=
  pe_of (pe_tup h) fun σ H Q ⟨ρ, σ', M, sl, rp, q⟩ => by
    refine ⟨ρ, σ', M, sl, rp, ?_⟩
    cases e : evd σ' M with
    | ok ds M1 =>
      simp only [e] at q
      intro ρ2 H2 vs t2 rp2 rl
      refine ⟨?_, fun p np => q ρ2 _ _ (t2.trans (.same rp2 (same_upd np))) (rp2.same (same_upd np)) (.newT (fun a h => rp2.dom h) np rl)⟩
      rw [← rl.length, hlen _ _ _ _ e]; exact line_le hl
    | exc c M1 => simp only [e] at q; exact q
    | bad => simp only [e] at q; exact q
end
end G

set_option Elab.async false
set_option linter.all false
set_option autoImplicit false
set_option maxRecDepth 100000
set_option maxHeartbeats 4000000
/-! Soundness, part 6: lists, calls, built-ins. -/
namespace G
open PySem PySem.Spec PyProof.Rows L2

section
variable {K : PySem.W.Frag} {fa : FW}
theorem To.own {ρ0 ρ : Rho} {H0 H : Hp} {p : Addr} (t : To ρ0 H0 ρ H) : To ρ0 H0 ρ H := t
/-- a list that is made becomes a value or a thing of the memory -/
theorem mk_own {XE : XP} {ρ0 ρ : Rho} {H0 H : Hp} {M : Mem} {p : Addr} {n : Nat} {ds : List D} {vs : List V} {Q : VK} (q : Post K fa XE ρ0 H0 (mkL n ds M) (RlW K fa) Q) (rp : Rep K fa (ρ.own p) H M) (t : To ρ0 H0 ρ H)
    (np : H0 p = none) (h : H p = some (.lst vs)) (rl : Rls K fa (mu (ρ.own p)) H ds vs) : Q (.ref p) H := by
  match n, q with
  | 0, q =>
    obtain ⟨rp', nm⟩ := rp.unown
    refine q ρ H _ t rp' ?_
    show Rl K fa (mu ρ) H (.lst ds) (.ref p)
    simp only [Rl]
    exact ⟨p, vs, rfl, nm, h, rl.keep fun a u h n => ⟨h, fun h2 => n (mu_own.mpr (.inl h2))⟩⟩
  | 1, q =>
    have rp' := rp.lay h rl
    have hlen : ρ.ls.length = M.length := rp.len
    refine q ⟨ρ.ls ++ [[p]], ρ.ex⟩ H _ ⟨fun a u ha n => ?_, ?_, fun l a as hl e => ?_, t.ex, t.exk⟩ rp' ⟨?_, fun a as e => ?_⟩
    · refine ⟨(t.keep a u ha n).1, fun h2 => ?_⟩
      have h3 : mu (ρ.own p) a := by
        rcases h2 with h2 | h2
        · simp only [List.flatten_append, List.mem_append, List.flatten_cons, List.flatten_nil, List.append_nil, List.mem_singleton] at h2
          rcases h2 with h2 | h2
          · exact mu_own.mpr (.inl (.inl h2))
          · exact mu_own.mpr (.inr h2)
        · exact mu_own.mpr (.inl (.inr h2))
      rcases mu_own.mp h3 with h4 | h4
      · exact (t.keep a u ha n).2 h4
      · rw [h4, np] at ha; cases ha
    · have := t.len; simp; omega
    · have := t.len
      rw [List.getElem?_append_left (by omega)] at e
      exact t.head l a as hl e
    · simp [hlen]
    · rw [← hlen, List.getElem?_append_right (Nat.le_refl _), Nat.sub_self] at e
      simp at e
      rw [e.1]
  | 2, q =>
    match ds, q, rl with
    | _ :: _, q, _ => exact q.elim
    | [], q, rl =>
    have evs := rl.nil
    subst evs
    have rp' := rp.layO (o := .lsts []) ⟨p, [], rfl, h, rfl⟩
    have hlen : ρ.ls.length = M.length := rp.len
    refine q ⟨ρ.ls ++ [[p]], ρ.ex⟩ H _ ⟨fun a u ha n => ?_, ?_, fun l a as hl e => ?_, t.ex, t.exk⟩ rp' ⟨?_, fun a as e => ?_⟩
    · refine ⟨(t.keep a u ha n).1, fun h2 => ?_⟩
      have h3 : mu (ρ.own p) a := by
        rcases h2 with h2 | h2
        · simp only [List.flatten_append, List.mem_append, List.flatten_cons, List.flatten_nil, List.append_nil, List.mem_singleton] at h2
          rcases h2 with h2 | h2
          · exact mu_own.mpr (.inl (.inl h2))
          · exact mu_own.mpr (.inr h2)
        · exact mu_own.mpr (.inl (.inr h2))
      rcases mu_own.mp h3 with h4 | h4
      · exact (t.keep a u ha n).2 h4
      · rw [h4, np] at ha; cases ha
    · have := t.len; simp; omega
    · have := t.len
      rw [List.getElem?_append_left (by omega)] at e
      exact t.head l a as hl e
    · simp [hlen]
    · rw [← hlen, List.getElem?_append_right (Nat.le_refl _), Nat.sub_self] at e
      simp at e
      rw [e.1]
  | n + 3, q => exact q.elim
/-- .. one that was just laid -/
theorem mk_new {XE : XP} {ρ : Rho} {H : Hp} {M : Mem} {p : Addr} {n : Nat} {ds : List D} {vs : List V} {Q : VK} (q : Post K fa XE ρ H (mkL n ds M) (RlW K fa) Q) (rp : Rep K fa ρ H M)
    (np : H p = none) (rl : Rls K fa (mu ρ) H ds vs) : Q (.ref p) (upd H p (.lst vs)) := by
  refine mk_own q (rp.own np) (.same rp (same_upd np)) np upd_same (rl.keep fun a u h n => ⟨same_upd np a u h, fun h2 => ?_⟩)
  rcases mu_own.mp h2 with h3 | h3
  · exact n h3
  · rw [h3, np] at h; cases h
theorem RlWs.length {ρ : Rho} {H : Hp} : ∀ {ws : List W} {vs : List V}, RlWs K fa ρ H ws vs → ws.length = vs.length
  | [], _, h => by have e : _ = [] := h; subst e; rfl
  | w :: ws, _, ⟨v, r, e, h1, h2⟩ => by subst e; simp [RlWs.length h2]
theorem RlWs.vws {ρ : Rho} {H : Hp} {M : Mem} (rp : Rep K fa ρ H M) : ∀ {ws : List W} {vs : List V} {ds : List D}, RlWs K fa ρ H ws vs → ws.mapM (asD M) = some ds → Vws K fa (mu ρ) H ds vs
  | [], vs, ds, h, e => by
    simp only [List.mapM_nil, Option.pure_def, Option.some.injEq] at e; subst e
    exact h
  | w :: ws, vs, ds, ⟨v, r, e1, h1, h2⟩, e => by
    simp only [List.mapM_cons, Option.pure_def, Option.bind_eq_bind, Option.bind_eq_some_iff, Option.some.injEq] at e
    obtain ⟨x, e2, xs, e3, rfl⟩ := e
    exact ⟨v, r, e1, h1.vw rp e2, RlWs.vws rp h2 e3⟩
end

section
variable {X : Cx} {fa : FW} {XE : XP} {a b c e : Expr} {es : List Expr} {pos : Pos} {ea eb ec : Sl → Mem → R W} {evs : Sl → Mem → R (List W)} {evd : Sl → Mem → R (List D)}
theorem r_lst {n : Nat} (h : PA X es (rdDs X.K fa XE evd)) (hl : es.length ≤ line) (hlen : ∀ σ M ds M', evd σ M = .ok ds M' → ds.length = es.length) : PE X (.List es pos) (rdE X.K fa XE fun σ M => (evd σ M).bind fun ds M => mkL n ds M) :=
  pe_of (pe_lst h) fun σ H Q ⟨ρ, σ', M, sl, rp, q⟩ => by
    refine ⟨ρ, σ', M, sl, rp, ?_⟩
    cases e : evd σ' M with
    | ok ds M1 =>
      simp only [e] at q
      intro ρ2 H2 vs t2 rp2 rl
      refine ⟨?_, fun p np => mk_new (Post.from q t2) rp2 np rl⟩
      rw [← rl.length, hlen _ _ _ _ e]; exact line_le hl
    | exc c M1 => simp only [e] at q; exact q
    | bad => simp only [e] at q; exact q

/-! ### built-ins -/
def evBi (f : List D → Option D) (evs : Sl → Mem → R (List W)) : Sl → Mem → R W := fun σ M => (evs σ M).bind fun ws M => ofO (ws.mapM (asD M)) fun ds => ofO (f ds) fun x => .ok (.d x) M
theorem t_bi {f : List D → Option D} {σ : StV} {H : Hp} {Q : VK} (q : rdE X.K fa XE (evBi f evs) σ H Q) : tCB (RBi X.K fa f) (rdA X.K fa XE evs) σ H Q := by
  obtain ⟨ρ, σ', M, sl, rp, q⟩ := q
  refine ⟨ρ, σ', M, sl, rp, (Post.bind q).mono fun vs H1 ⟨ws, ρ1, M1, t1, rp1, rl1, q1⟩ => ?_⟩
  obtain ⟨ds, e1, q1⟩ := Post.of q1
  obtain ⟨z, e2, q1⟩ := Post.val q1 rp1
  exact ⟨mu ρ1, ds, z, fun a h => rp1.dom h, rl1.vws rp1 e1, e2, q1⟩
theorem r_biB {x : Str} {p : Pos} {id : String} {f : List D → Option D} (hc : CallR X (.builtin id) (RBi X.K fa f)) (hg : Gl X x) (hm : X.mg x = none) (hv : bootBuiltins x = some (.builtin id)) (ha : PA X (e :: es) (rdA X.K fa XE evs)) (hn : x ≠ "__name__") (hdb : (x == ("__debug__" : Str)) = false)
    (he : starEach (e :: es) X.env = (false, eval e X.env) :: starEach es X.env) (hpl : (backTo pos (starEach es X.env)).any (·.1) = false) : PE X (.Call (.Name x p) (e :: es) [] pos) (rdE X.K fa XE (evBi f evs)) :=
  pe_of (pe_callB hc hg hm hv ha hn hdb he hpl) fun _ _ _ q => t_bi q
theorem r_biT {x : Str} {p : Pos} {T : String} {f : List D → Option D} (hc : CallR X (.type T) (RBi X.K fa f)) (hg : Gl X x) (hm : X.mg x = none) (hv : bootBuiltins x = some (.type T)) (ha : PA X (e :: es) (rdA X.K fa XE evs)) (hn : x ≠ "__name__") (hdb : (x == ("__debug__" : Str)) = false)
    (he : starEach (e :: es) X.env = (false, eval e X.env) :: starEach es X.env) (hpl : (backTo pos (starEach es X.env)).any (·.1) = false) : PE X (.Call (.Name x p) (e :: es) [] pos) (rdE X.K fa XE (evBi f evs)) :=
  pe_of (pe_callTy hc hg hm hv ha hn hdb he hpl) fun _ _ _ q => t_bi q
/-- one expression, a built-in -/
def ev1 (f : D → Option D) (ea : Sl → Mem → R W) : Sl → Mem → R W := fun σ M => (ea σ M).bind fun w M => ofO (asD M w) fun x => ofO (f x) fun z => .ok (.d z) M
theorem r_isi {T : String} {tb : Bi} {x t : Str} {p p2 : Pos} (hb : isBi T = some tb) (hg : Gl X "isinstance") (hm : X.mg "isinstance" = none) (hgt : Gl X t) (hmt : X.mg t = none) (hvt : bootBuiltins t = some (.type T)) (hn : t ≠ "__name__") (hd : (t == ("__debug__" : Str)) = false)
    (ha : PE X a (rdE X.K fa XE ea)) (hs : starEach (a :: [.Name t p2]) X.env = (false, eval a X.env) :: starEach [.Name t p2] X.env) :
    PE X (.Call (.Name "isinstance" p) [a, .Name t p2] [] pos) (rdE X.K fa XE (ev1 (fun x => biD tb [x]) ea)) :=
  pe_of (pe_callB (isi_ok (fa := fa) hb) hg hm (by decide +kernel) (pa_cons ha (pa_cons (pe_bltn (v := .ty T) hgt hmt hvt rfl hn hd) pa_nil) hs) (by decide) (by decide) hs) fun σ H Q ⟨ρ, σ', M, sl, rp, q⟩ => by
    refine ⟨ρ, σ', M, sl, rp, (Post.bind q).mono fun v H1 ⟨w, ρ1, M1, t1, rp1, rl1, q1⟩ => ?_⟩
    obtain ⟨y, e1, q1⟩ := Post.of q1
    obtain ⟨z, e2, q1⟩ := Post.val q1 rp1
    exact ⟨mu ρ1, y, z, v, rfl, rl1.vw rp1 e1, e2, fun u r => q1 u H1 (.refl H1) r⟩
theorem r_neg (ha : PE X a (rdE X.K fa XE ea)) : PE X (.UnaryOp .USub a pos) (rdE X.K fa XE (ev1 (fun x => biD .neg [x]) ea)) :=
  pe_of (pe_un un_neg ha) fun σ H Q ⟨ρ, σ', M, sl, rp, q⟩ => by
    refine ⟨ρ, σ', M, sl, rp, (Post.bind q).mono fun v H1 ⟨w, ρ1, M1, t1, rp1, rl1, q1⟩ => ?_⟩
    obtain ⟨y, e1, q1⟩ := Post.of q1
    obtain ⟨z, e2, q1⟩ := Post.val q1 rp1
    have vw := rl1.vw rp1 e1
    cases y with
    | int i =>
      rw [rl_int] at vw
      simp only [biD, Option.some.injEq] at e2; subst e2
      exact ⟨i, vw, q1 _ H1 (.refl H1) (by simp [Rl])⟩
    | _ => simp [biD] at e2
theorem r_indexTrue {j : Nat} {p2 apos : Pos} (ha : PE X a (rdE X.K fa XE ea)) (hbase : attributeBase a "index" X.env (eval a X.env) = eval a X.env) (hline : (apos.endLine == pos.line) = true) :
    PE X (.Call (.Attribute a "index" apos) [.Constant (.bool true) j p2] [] pos) (rdE X.K fa XE (ev1 (fun x => biD .indexTrue [x]) ea)) :=
  pe_of (pe_bm PySem.F.plainAttrs_list PySem.F.slot_list_index PySem.F.type_list_index (index_ok (fa := fa)) ha (pa_cons pe_bl pa_nil) hbase rfl hline) fun σ H Q ⟨ρ, σ', M, sl, rp, q⟩ => by
    refine ⟨ρ, σ', M, sl, rp, (Post.bind q).mono fun v H1 ⟨w, ρ1, M1, t1, rp1, rl1, q1⟩ => ?_⟩
    obtain ⟨y, e1, q1⟩ := Post.of q1
    obtain ⟨z, e2, q1⟩ := Post.val q1 rp1
    have vw := rl1.vw rp1 e1
    refine ⟨?_, mu ρ1, y, z, rfl, vw, e2, fun u r => q1 u H1 (.refl H1) r⟩
    cases y with
    | lst ds =>
      obtain ⟨p, vs, rfl, h1, _⟩ := vw_sq vw
      exact .inl ⟨rfl, vs, .of h1⟩
    | _ => simp [biD] at e2

/-! ### a call of a def -/
variable (ex : Nat → Addr) (T : Nat → Option Fn)
/-- what a def promises: it does what the language's def does -/
def spF (K : PySem.W.Frag) (fa : FW) (ex : Nat → Addr) (T : Nat → Option Fn) (k f : Nat) : Sp := fun vs H Q E => ∃ ρ ws M, RlWs K fa ρ H ws vs ∧ Rep K fa ρ H M ∧ Post K fa (fun c H' => E (.ref (ex c)) none H') ρ H (call T k f ws M) (RlW K fa) Q
/-- what is wanted of an exception -/
def EK (ex : Nat → Addr) (XE : XP) : XK := fun cls d H => ∃ c, cls = .ref (ex c) ∧ d = none ∧ XE c H
theorem t_call {ex : Nat → Addr} {T : Nat → Option Fn} {k f : Nat} {σ : StV} {H : Hp} {Q : VK} (q : rdE X.K fa XE (fun σ M => (evs σ M).bind fun ws M => call T k f ws M) σ H Q) : tCall (spF X.K fa ex T k f) [] (EK ex XE) (rdA X.K fa XE evs) σ H Q := by
  obtain ⟨ρ, σ', M, sl, rp, q⟩ := q
  refine ⟨ρ, σ', M, sl, rp, (Post.bind q).mono fun vs H1 ⟨ws, ρ1, M1, t1, rp1, rl1, q1⟩ => ?_⟩
  refine ⟨ρ1, ws, M1, by simpa using rl1, rp1, ?_⟩
  revert q1
  cases call T k f ws M1 with
  | ok w M2 => exact fun q1 => q1
  | exc c M2 => exact fun q1 ρ2 H2 t2 rp2 => ⟨c, rfl, rfl, q1 ρ2 H2 t2 rp2⟩
  | bad => exact fun q1 => q1
/-- a def of the table as it stands -/
structure FnAt (P : Program) (w : World) (K : PySem.W.Frag) (mg : Str → Option Value) (base : Heap) (CX : CXT) (fa : FW) (ex : Nat → Addr) (T : Nat → Option Fn) (k f : Nat) (x : Str) : Prop where
  at_ : ∃ (a : Addr) (fd : FuncData) (ps : List Str), fa.f f = some a ∧ mg x = some (.ref a) ∧ PySem.W.keepIn K (.ref a) = true ∧ Binds K fd ps [] ∧ FnOk P w K mg base CX k a fd ps (spF K fa ex T k f)
theorem r_call {CX : CXT} {ex : Nat → Addr} {T : Nat → Option Fn} {k f : Nat} {x : Str} {p : Pos} (F : FnAt X.prog X.w X.K X.mg X.base CX fa ex T k f x) (hr : Room k X.A) (hg : Gl X x) (hx : Passes CX X (EK ex XE)) (ha : PA X (e :: es) (rdA X.K fa XE evs)) (hdb : (x == ("__debug__" : Str)) = false)
    (he : starEach (e :: es) X.env = (false, eval e X.env) :: starEach es X.env) (hpl : (backTo pos (starEach es X.env)).any (·.1) = false) :
    PE X (.Call (.Name x p) (e :: es) [] pos) (rdE X.K fa XE fun σ M => (evs σ M).bind fun ws M => call T k f ws M) := by
  obtain ⟨a, fd, ps, h1, h2, h3, h4, h5⟩ := F.at_
  exact pe_of (pe_call h5 hr hg h2 h3 h4 .nil hx ha hdb he hpl) fun _ _ _ q => t_call q
theorem r_call0 {CX : CXT} {ex : Nat → Addr} {T : Nat → Option Fn} {k f : Nat} {x : Str} {p : Pos} (F : FnAt X.prog X.w X.K X.mg X.base CX fa ex T k f x) (hr : Room k X.A) (hg : Gl X x) (hx : Passes CX X (EK ex XE)) (hdb : (x == ("__debug__" : Str)) = false) :
    PE X (.Call (.Name x p) [] [] pos) (rdE X.K fa XE fun σ M => (R.ok [] M).bind fun ws M => call T k f ws M) := by
  obtain ⟨a, fd, ps, h1, h2, h3, h4, h5⟩ := F.at_
  refine pe_of (pe_call0 h5 hr hg h2 h3 h4 .nil hx hdb) fun σ H Q ⟨ρ, σ', M, sl, rp, q⟩ => ?_
  have q1 : Post X.K fa XE ρ H (call T k f [] M) (RlW X.K fa) Q := q
  refine ⟨ρ, [], M, rfl, rp, ?_⟩
  revert q1
  cases call T k f [] M with
  | ok w M2 => exact fun q1 => q1
  | exc c M2 => exact fun q1 ρ2 H2 t2 rp2 => ⟨c, rfl, rfl, q1 ρ2 H2 t2 rp2⟩
  | bad => exact fun q1 => q1

/-! ### slices -/
variable {lo hi : Option Expr} {el eh : Sl → Mem → R (Option Int)} {p2 : Pos}
def rdO (K : PySem.W.Frag) (fa : FW) (XE : XP) (ev : Sl → Mem → R (Option Int)) : TO := fun σV H Q => ∃ ρ σ M, Sls K fa ρ H σ σV ∧ Rep K fa ρ H M ∧ Post K fa XE ρ H (ev σ M) (fun _ _ a b => b = a) Q
theorem po_of {o : Option Expr} {t t' : TO} (h : PO X o t) (w : ∀ σ H Q, t' σ H Q → t σ H Q) : PO X o t' := ⟨fun pins s σ H Q I q => h.run pins s σ H Q I (w σ H Q q)⟩
theorem r_none : PO X none (rdO X.K fa XE fun _ M => .ok none M) := po_of po_none fun σ H Q ⟨ρ, σ', M, sl, rp, q⟩ => q.ok rp rfl
theorem r_some (h : PE X e (rdE X.K fa XE ea)) : PO X (some e) (rdO X.K fa XE fun σ M => (ea σ M).bind fun w M => match w with
    | .d (.int i) => .ok (some i) M
    | _ => .bad) := po_of (po_some h) fun σ H Q ⟨ρ, σ', M, sl, rp, q⟩ => by
  refine ⟨ρ, σ', M, sl, rp, (Post.bind q).mono fun v H1 ⟨w, ρ1, M1, t1, rp1, rl1, q1⟩ => ?_⟩
  cases w with
  | d x => cases x with
    | int i => exact ⟨i, rl1, q1.ok rp1 rfl⟩
    | _ => exact q1.elim
  | _ => exact q1.elim
theorem cut_eq (xs : List V) (lo hi : Option Int) : cutV xs lo hi = cut xs lo hi := rfl
theorem Rls.cut {K : PySem.W.Frag} {m : Addr → Prop} {H : Hp} {ds : List D} {vs : List V} (h : Rls K fa m H ds vs) (lo hi : Option Int) : Rls K fa m H (cut ds lo hi) (cutV vs lo hi) := by
  rw [cut_eq]
  unfold G.cut
  rw [← h.length]
  exact (h.drop _).take _
def rSl (K : PySem.W.Frag) (fa : FW) : V → Option Int → Option Int → Hp → VK → Prop := fun x lo hi H Q => ∃ (m : Addr → Prop) (d r : D), (∀ a, m a → H a ≠ none) ∧ Vw K fa m H d x ∧ cutD lo hi d = some r ∧ ∀ v H', Same H H' → Rl K fa m H' r v → Q v H'
theorem cutS_eq (z : List Nat) (lo hi : Option Int) : cutS ⟨z.toArray⟩ lo hi = ⟨(cut z lo hi).toArray⟩ := by
  first | rfl | (unfold cutS cut; simp [sIx, HT.sIx])
theorem sl_ok : SlR X (rSl X.K fa) := by
  intro pins s σ H x v vl vu lo hi sl Q I rx hs pl pu ⟨m, d, r, dom, hd, ho, q⟩
  cases d with
  | tup ds =>
    have hd' := hd
    obtain ⟨p, vs, rfl, _, h1, h2⟩ := vw_tup hd
    simp only [cutD, Option.some.injEq] at ho; subst ho
    refine sl_tupA pins s σ H _ v vl vu lo hi sl Q I rx hs pl pu ⟨p, vs, rfl, .of h1, fun e => ?_, fun _ t nt => q _ _ (same_upd nt) (.newT dom nt (h2.cut lo hi))⟩
    have e2 : cut ds lo hi = ds := by
      have l := h2.length
      unfold cut
      have e3 : sIx ds.length 0 lo = 0 := by rw [l]; exact e.1
      have e4 : sIx ds.length ds.length hi = ds.length := by rw [l]; exact e.2
      rw [e3, e4]; simp
    rw [e2] at q
    exact q _ _ (.refl H) hd'
  | lst ds =>
    obtain ⟨p, vs, rfl, h1, h2⟩ := vw_sq hd
    simp only [cutD, Option.some.injEq] at ho; subst ho
    exact sl_list pins s σ H _ v vl vu lo hi sl Q I rx hs pl pu ⟨p, vs, rfl, .of h1, fun t nt => q _ _ (same_upd nt) (.newL dom nt (h2.cut lo hi))⟩
  | str z =>
    rw [rl_str] at hd
    simp only [cutD] at ho
    split at ho
    · rename_i hl
      simp only [Option.some.injEq] at ho; subst ho
      exact sl_str pins s σ H x v vl vu lo hi sl Q I rx hs pl pu ⟨_, hd, by rw [str_len]; exact line_le hl, q _ _ (.refl H) (by simp only [Rl]; rw [cutS_eq])⟩
    · cases ho
  | _ => simp [cutD] at ho
theorem r_slice (ha : PE X a (rdE X.K fa XE ea)) (hl : PO X lo (rdO X.K fa XE el)) (hh : PO X hi (rdO X.K fa XE eh)) : PE X (.Subscript a (.Slice lo hi none p2) pos) (rdE X.K fa XE fun σ M => (ea σ M).bind fun w M => (el σ M).bind fun l M => (eh σ M).bind fun h M => ofO (asD M w) fun x => ofO (cutD l h x) fun y => .ok (.d y) M) :=
  pe_of (pe_slice (sl_ok (fa := fa)) ha hl hh) fun σ H Q ⟨ρ, σ', M, sl, rp, q⟩ => by
    refine ⟨ρ, σ', M, sl, rp, (Post.bind q).mono fun v H1 ⟨w, ρ1, M1, t1, rp1, rl1, q1⟩ => ?_⟩
    refine ⟨ρ1, σ', M1, sl.to t1, rp1, (Post.bind (rel := fun _ _ a b => b = a) q1).mono fun l H2 ⟨l', ρ2, M2, t2, rp2, e2, q2⟩ => ?_⟩
    refine ⟨ρ2, σ', M2, (sl.to t1).to t2, rp2, (Post.bind (rel := fun _ _ a b => b = a) q2).mono fun h H3 ⟨h', ρ3, M3, t3, rp3, e3, q3⟩ => ?_⟩
    subst e2 e3
    obtain ⟨x, e4, q3⟩ := Post.of q3
    obtain ⟨y, e5, q3⟩ := Post.val q3 rp3
    exact ⟨mu ρ3, x, y, fun a h => rp3.dom h, ((rl1.to t2).to t3).vw rp3 e4, e5, q3⟩

/-! ### list(x), sorted -/
theorem r_listof {n : Nat} {p : Pos} (hg : Gl X "list") (hm : X.mg "list" = none) (ha : PE X a (rdE X.K fa XE ea)) (hs : starEach [a] X.env = (false, eval a X.env) :: starEach [] X.env) : PE X (.Call (.Name "list" p) [a] [] pos) (rdE X.K fa XE fun σ M => (ea σ M).bind fun w M => ofO (asD M w) fun x => match x with
    | .lst ds => mkL n ds M
    | .tup ds => mkL n ds M
    | _ => .bad) :=
  pe_of (pe_callTy call_list_of hg hm (by decide +kernel) (pa_cons ha pa_nil hs) (by decide) (by decide) hs rfl) fun σ H Q ⟨ρ, σ', M, sl, rp, q⟩ => by
    refine ⟨ρ, σ', M, sl, rp, (Post.bind q).mono fun v H1 ⟨w, ρ1, M1, t1, rp1, rl1, q1⟩ => ?_⟩
    obtain ⟨x, e1, q1⟩ := Post.of q1
    have vw := rl1.vw rp1 e1
    cases x with
    | lst ds =>
      obtain ⟨p, vs, rfl, h1, h2⟩ := vw_sq vw
      exact ⟨p, vs, rfl, .inl (.of h1), fun l nl => mk_new q1 rp1 nl h2⟩
    | tup ds =>
      obtain ⟨p, vs, rfl, _, h1, h2⟩ := vw_tup vw
      exact ⟨p, vs, rfl, .inr (.of h1), fun l nl => mk_new q1 rp1 nl h2⟩
    | _ => exact q1.elim
theorem r_rep {n : Nat} (ha : PE X a (rdE X.K fa XE ea)) (hb : PE X b (rdE X.K fa XE eb)) : PE X (.BinOp a .Mult b pos) (rdE X.K fa XE fun σ M => (ea σ M).bind fun w M => (eb σ M).bind fun w' M => ofO (asD M w) fun x => ofO (asD M w') fun y => match mulD x y with
    | some (.lst ds) => mkL n ds M
    | _ => .bad) :=
  pe_of (pe_op op_rep ha hb) fun σ H Q ⟨ρ, σ', M, sl, rp, q⟩ => by
    refine ⟨ρ, σ', M, sl, rp, (Post.bind q).mono fun v H1 ⟨w, ρ1, M1, t1, rp1, rl1, q1⟩ => ?_⟩
    refine ⟨ρ1, σ', M1, sl.to t1, rp1, (Post.bind q1).mono fun u H2 ⟨w', ρ2, M2, t2, rp2, rl2, q2⟩ => ?_⟩
    obtain ⟨x, e1, q2⟩ := Post.of q2
    obtain ⟨y, e2, q2⟩ := Post.of q2
    have v1 := (rl1.to t2).vw rp2 e1
    have v2 := rl2.vw rp2 e2
    cases x with
    | lst ds =>
      cases y with
      | int k =>
        rw [rl_int] at v2
        obtain ⟨p, vs, rfl, h1, h2⟩ := vw_sq v1
        simp only [mulD] at q2
        split at q2
        · rename_i heq
          split at heq
          · rename_i hl
            simp only [Option.some.injEq, D.lst.injEq] at heq; subst heq
            refine ⟨p, k, vs, rfl, v2, h1, by omega, by omega, ?_, fun t nt => mk_new q2 rp2 nt (h2.rep _)⟩
            rw [← h2.length]
            exact Nat.le_trans (Nat.mul_le_mul hl.2.2 (show k.toNat ≤ 1000 by omega)) (by decide)
          · cases heq
        · exact q2.elim
      | _ => simp only [mulD] at q2; exact q2.elim
    | int i =>
      cases y <;> simp only [mulD] at q2 <;> try exact q2.elim
      split at q2
      · rename_i heq; split at heq <;> cases heq
      · exact q2.elim
    | str i =>
      cases y <;> simp only [mulD] at q2 <;> try exact q2.elim
      split at q2
      · rename_i heq; split at heq <;> cases heq
      · exact q2.elim
    | tup i =>
      cases y <;> simp only [mulD] at q2 <;> try exact q2.elim
      split at q2
      · rename_i heq; split at heq <;> cases heq
      · exact q2.elim
    | _ => simp only [mulD] at q2; exact q2.elim
end
end G

set_option Elab.async false
set_option linter.all false
set_option autoImplicit false
set_option maxRecDepth 100000
set_option maxHeartbeats 4000000
/-! Soundness, part 7: sorted texts, t[::-1], methods. -/
namespace G
open PySem PySem.Spec PyProof.Rows L2

/-! ### sorted of texts -/
theorem ltS_irrefl : ∀ a : List Nat, ltS a a = false
  | [] => rfl
  | x :: xs => by simp [ltS, ltS_irrefl xs]
theorem ltS_trans : ∀ {a b c : List Nat}, ltS a b = true → ltS b c = true → ltS a c = true
  | [], [], c, h, _ => by simp [ltS] at h
  | [], _ :: _, [], _, h => by simp [ltS] at h
  | [], _ :: _, _ :: _, _, _ => rfl
  | _ :: _, [], _, h, _ => by simp [ltS] at h
  | _ :: _, _ :: _, [], _, h => by simp [ltS] at h
  | x :: xs, y :: ys, z :: zs, h, g => by
    simp only [ltS] at h g ⊢
    by_cases e1 : x = y
    · subst e1
      by_cases e2 : x = z
      · subst e2; simp only [if_true] at h g ⊢; exact ltS_trans h g
      · simp only [if_true, e2, if_false] at h g ⊢; exact g
    · simp only [e1, if_false, decide_eq_true_eq] at h
      by_cases e2 : y = z
      · subst e2; simp [e1, h]
      · simp only [e2, if_false, decide_eq_true_eq] at g
        have e3 : x ≠ z := by omega
        simp [e3]; omega
theorem ltS_tri : ∀ {a b : List Nat}, ltS a b = false → ltS b a = false → a = b
  | [], [], _, _ => rfl
  | [], _ :: _, h, _ => by simp [ltS] at h
  | _ :: _, [], _, h => by simp [ltS] at h
  | x :: xs, y :: ys, h, g => by
    simp only [ltS] at h g
    by_cases e : x = y
    · subst e; simp only [if_true] at h g; rw [ltS_tri h g]
    · have e' : y ≠ x := fun z => e z.symm
      simp only [e, e', if_false, decide_eq_false_iff_not] at h g
      omega
/-- not greater -/
def leS (a b : List Nat) : Prop := ltS b a = false
theorem leS_trans {a b c : List Nat} (h : leS a b) (g : leS b c) : leS a c := by
  unfold leS at *
  cases q : ltS c a with
  | false => rfl
  | true =>
    cases q2 : ltS a b with
    | true => rw [ltS_trans q q2] at g; cases g
    | false => rw [ltS_tri q2 h] at q; rw [q] at g; cases g
theorem insS_perm (x : List Nat) : ∀ l, (insS x l).Perm (x :: l)
  | [] => .refl _
  | y :: r => by
    simp only [insS]
    split
    · exact ((insS_perm x r).cons y).trans (.swap x y r)
    · exact .refl _
theorem sortS_perm : ∀ l, (sortS l).Perm l
  | [] => .refl _
  | x :: r => (insS_perm x (sortS r)).trans ((sortS_perm r).cons x)
theorem insS_rise {x : List Nat} : ∀ {l}, l.Pairwise leS → (insS x l).Pairwise leS
  | [], _ => by simp [insS]
  | y :: r, h => by
    rw [List.pairwise_cons] at h
    simp only [insS]
    split
    · rename_i hy
      rw [List.pairwise_cons]
      refine ⟨fun z hz => ?_, insS_rise h.2⟩
      rcases List.mem_cons.mp ((insS_perm x r).mem_iff.mp hz) with e | e
      · subst e
        unfold leS
        cases q : ltS z y with
        | false => rfl
        | true => have := ltS_trans hy q; rw [ltS_irrefl] at this; cases this
      · exact h.1 z e
    · rename_i hy
      have hy' : leS x y := by unfold leS; simpa using hy
      rw [List.pairwise_cons]
      refine ⟨fun z hz => ?_, List.pairwise_cons.mpr h⟩
      rcases List.mem_cons.mp hz with e | e
      · subst e; exact hy'
      · exact leS_trans hy' (h.1 z e)
theorem sortS_rise : ∀ l, (sortS l).Pairwise leS
  | [] => by simp [sortS]
  | x :: r => insS_rise (sortS_rise r)
theorem rise_one : ∀ {a b : List (List Nat)}, a.Perm b → a.Pairwise leS → b.Pairwise leS → a = b
  | [], b, p, _, _ => by rw [List.nil_perm.mp p]
  | x :: xs, [], p, _, _ => absurd (List.perm_nil.mp p) (by simp)
  | x :: xs, y :: ys, p, ha, hb => by
    rw [List.pairwise_cons] at ha hb
    have e : x = y := by
      have h1 : leS x y := by
        rcases List.mem_cons.mp (p.mem_iff.mpr List.mem_cons_self : y ∈ x :: xs) with e | e
        · subst e; exact ltS_irrefl _
        · exact ha.1 y e
      have h2 : leS y x := by
        rcases List.mem_cons.mp (p.mem_iff.mp List.mem_cons_self : x ∈ y :: ys) with e | e
        · subst e; exact ltS_irrefl _
        · exact hb.1 x e
      exact ltS_tri h2 h1
    subst e
    rw [rise_one (List.Perm.cons_inv p) ha.2 hb.2]
def cpsL (s : Str) : List Nat := s.cps.toList
theorem ltC (a b : List Nat) : ltCps a b = ltS a b := by rw [ltCps_eq, ltS_eq]
theorem rising_pw : ∀ {x : Str} {l : List Str}, risingS x l = true → ((x :: l).map cpsL).Pairwise leS
  | x, [], _ => by simp
  | x, y :: r, h => by
    simp only [risingS, Bool.and_eq_true, Bool.not_eq_true'] at h
    have ih := rising_pw h.2
    have h1 : leS (cpsL x) (cpsL y) := by
      have := h.1
      rw [ltC] at this
      exact this
    rw [List.map_cons, List.pairwise_cons]
    refine ⟨fun z hz => ?_, ih⟩
    rw [List.map_cons] at hz ih
    rw [List.pairwise_cons] at ih
    rcases List.mem_cons.mp hz with e | e
    · subst e; exact h1
    · exact leS_trans h1 (ih.1 z e)
theorem sorted_pw {l : List Str} (h : sortedS l = true) : (l.map cpsL).Pairwise leS := by
  cases l with
  | nil => simp
  | cons x r => exact rising_pw h
theorem sorted_is {zs : List (List Nat)} {ys : List Str} (p : ys.Perm (zs.map fun z => (⟨z.toArray⟩ : Str))) (h : sortedS ys = true) : ys = (sortS zs).map fun z => (⟨z.toArray⟩ : Str) := by
  have e : ys.map cpsL = sortS zs := by
    refine rise_one (List.Perm.trans (p.map cpsL) ?_) (sorted_pw h) (sortS_rise zs)
    rw [List.map_map]
    have : (cpsL ∘ fun z : List Nat => (⟨z.toArray⟩ : Str)) = id := by funext z; simp [cpsL]
    rw [this, List.map_id]
    exact (sortS_perm zs).symm
  rw [← e, List.map_map]
  have : ((fun z : List Nat => (⟨z.toArray⟩ : Str)) ∘ cpsL) = id := by funext z; simp [cpsL]
  rw [this, List.map_id]

section
variable {prog : Program} {w : World} {A : Around} {E : Value → Shared → Prop} {s : Shared}
theorem coll_tup {t : Addr} {us : List Value} {Q : List Value → Shared → Prop} (ht : IsTup s.heap t us.toArray) (hz : us.length ≤ sizeLine)
    (q : Q us { s with heap := (s.heap.push (seqObj "list" #[] 0)).update s.heap.objs.size (Obj.mapSeq (· ++ us.toArray)) }) : wpAny (model prog w) A (collect (.ref t)) Q E s := by
  obtain ⟨o, h0, hcl, n, hdt⟩ := id ht
  have h1 : (s.heap.push (seqObj "list" #[] 0)).get? t = some o := Heap.get?_push_of_some _ h0
  unfold collect
  refine wpAny_bind (wpAny_runValue (codeAny_builtin entry_proto_collect' ?_))
  show wpAny _ _ (do again (.builtin "list.__iadd__" ⟨[← newList [], .ref t], []⟩)) _ _ s
  refine wpAny_bind (wpAny_newList (wpAny_pure ⟨Code.quiet_builtin _ (by decide +kernel), codeAny_builtin entry_list_iadd' ?_⟩))
  show wpAny _ _ (Builtin.List.listExtendWith (.ref s.heap.objs.size) (.ref t) (.ref s.heap.objs.size)) _ _ { s with heap := s.heap.push (seqObj "list" #[] 0) }
  unfold Builtin.List.listExtendWith
  refine wpAny_bind (wpAny_typeOf (T := "tuple") ⟨o, h1, hcl⟩ ?_)
  have hty : (Value.type "tuple" == Value.type "tuple") = true := by rfl
  rw [if_pos (by rw [hty]; simp)]
  refine wpAny_bind (listItems_at h1 hdt ?_)
  refine wpAny_bind (listItems_at (xs := #[]) (n := 0) (Heap.get?_push_size _ rfl) rfl ?_)
  rw [if_neg (by simp)]
  refine wpAny_bind (listUpdate_at (xs := #[]) (n := 0) (Heap.get?_push_size _ rfl) rfl ?_ (Nat.zero_le _) (by show (#[] ++ us.toArray).size ≤ sizeLine + 1; rw [Array.size_append, List.size_toArray, List.size_toArray, List.length_nil]; omega))
  refine wpAny_pure ?_
  show wpAny (model prog w) A (do
      let o ← load s.heap.objs.size
      match o.data with
      | .seq zs _ => pure zs.toList
      | _ => unsupported "internal:collect") Q E { s with heap := (s.heap.push (seqObj "list" #[] 0)).update s.heap.objs.size (Obj.mapSeq (· ++ us.toArray)) }
  refine wpAny_bind (wpAny_load (get?_update_seq (Heap.get?_push_size _ rfl) _) ?_)
  show wpAny _ _ (pure ((#[] : Array Value) ++ us.toArray).toList) Q E _
  rw [show ((#[] : Array Value) ++ us.toArray).toList = us by simp]
  exact wpAny_pure q
theorem sorted_tup {t : Addr} {us : List Value} {ss : List Str} {Q : Value → Shared → Prop} (ht : IsTup s.heap t us.toArray) (hS : StrsAre us ss) (h64 : us.length < 64)
    (q : ∀ (out : Array Value) (zs : List Str), StrsAre out.toList zs → zs.Perm ss → sortedS zs = true → Q (.ref (s.heap.objs.size + 1)) { s with heap := sortedAll s.heap us out }) :
    wpAny (model prog w) A (PySem.call (.builtin "sorted") [.ref t]) Q E s := by
  refine Calls.call_function_entry kind_sorted plain_sorted entry_sorted (args_sorted1 _) ?_
  unfold Builtin.«sorted»
  refine wpAny_bind (m := checkCount "sorted" 1 1 _) (wpAny_pure ?_)
  refine wpAny_bind (coll_tup ht (by rw [sizeLine_eq]; omega) ?_)
  refine wpAny_bind (wpAny_newList ?_)
  have hs1 : ((s.heap.push (seqObj "list" #[] 0)).update s.heap.objs.size (Obj.mapSeq (· ++ us.toArray))).objs.size = s.heap.objs.size + 1 := by rw [Heap.size_update, size_push']
  have hs2 : (((s.heap.push (seqObj "list" #[] 0)).update s.heap.objs.size (Obj.mapSeq (· ++ us.toArray))).push (seqObj "list" us.toArray 0)).get? (s.heap.objs.size + 1) = some (seqObj "list" us.toArray 0) := by
    rw [← hs1]; exact Heap.get?_push_size _ rfl
  show wpAny _ _ _ _ _ { s with heap := ((s.heap.push (seqObj "list" #[] 0)).update s.heap.objs.size (Obj.mapSeq (· ++ us.toArray))).push (seqObj "list" us.toArray 0) }
  rw [hs1]
  refine wpAny_bind (wpAny_holding (wpAny_call_entry slot_list_sort ⟨_, hs2, rfl⟩ entry_list_sort (list_sort_treeK strKind_oneLt hs2 hS.keysOf (fun v₁ v₂ rest e => keyKind_strs (by rw [← e]; exact hS)) h64 fun st' a1 a2 => ⟨_, rfl, ?_⟩) (args_list_sort _)))
  obtain ⟨zs, b1, b2, b3⟩ := sorted_out_str hS a1 a2
  exact wpAny_pure ⟨_, rfl, q _ zs b1 b2 b3⟩
end
section
variable {X : Cx} {fa : FW} {XE : XP} {a b c e : Expr} {es : List Expr} {pos : Pos} {ea eb ec : Sl → Mem → R W} {evs : Sl → Mem → R (List W)}
def rSortT (K : PySem.W.Frag) : List V → Hp → VK → Prop := fun vs H Q => ∃ (a : Addr) (xs : List Str), vs = [V.ref a] ∧ SqT K H a (xs.map V.str) ∧ xs.length < 64 ∧
  ∀ (ys : List Str) (p : Addr), ys.Perm xs → sortedS ys = true → H p = none → Q (.ref p) (upd H p (.lst (ys.map V.str)))
theorem cr_sortT : CallR X (.builtin "sorted") (rSortT X.K) := by
  intro pins s σ H vs us Q I r h
  obtain ⟨a, xs, rfl, hs, h64, q⟩ := h
  obtain ⟨its, rv, hl, _⟩ := I.tuple hs
  rw [Vals.ref1 r]
  have hlen0 := rv.length
  rw [List.length_map] at hlen0
  refine sorted_tup hl rv.strs (by rw [← hlen0]; exact h64) fun out ys h1 h2 h3 => ?_
  obtain ⟨ep, he'⟩ := PyProof.Rows.sortedAll_at s.heap its out
  have hlen : (ys.map V.str).length ≤ sizeLine := by rw [List.length_map, h2.length_eq]; exact small64 h64
  refine ⟨.ref _, upd H (s.heap.objs.size + 1) (.lst (ys.map V.str)), I.laid (t' := s.toks) (fun _ _ => PyProof.Rows.sortedAll_old) (Nat.le_succ _) ⟨hlen, out.toList, ep, vals_of_strs h1, he'⟩, rfl, ?_⟩
  exact q ys _ h2 h3 (I.hok.fresh (Nat.le_succ _))
theorem rls_strs {K : PySem.W.Frag} {m : Addr → Prop} {H : Hp} : ∀ zs : List (List Nat), Rls K fa m H (zs.map .str) ((zs.map fun z => (⟨z.toArray⟩ : Str)).map V.str)
  | [] => by simp [Rls]
  | z :: zs => .cons (by simp [Rl]) (rls_strs zs)
theorem rls_ints {K : PySem.W.Frag} {m : Addr → Prop} {H : Hp} : ∀ zs : List Int, Rls K fa m H (zs.map .int) (zs.map V.int)
  | [] => by simp [Rls]
  | z :: zs => .cons (by simp [Rl]) (rls_ints zs)
theorem insI_perm (x : Int) : ∀ l, (insI x l).Perm (x :: l)
  | [] => .refl _
  | y :: r => by
    simp only [insI]
    split
    · exact ((insI_perm x r).cons y).trans (.swap x y r)
    · exact .refl _
theorem sortI_perm : ∀ l, (sortI l).Perm l
  | [] => .refl _
  | x :: r => (insI_perm x (sortI r)).trans ((sortI_perm r).cons x)
theorem insI_rise {x : Int} : ∀ {l : List Int}, l.Pairwise (· ≤ ·) → (insI x l).Pairwise (· ≤ ·)
  | [], _ => by simp [insI]
  | y :: r, h => by
    rw [List.pairwise_cons] at h
    simp only [insI]
    split
    · rename_i hy
      rw [List.pairwise_cons]
      refine ⟨fun z hz => ?_, insI_rise h.2⟩
      rcases List.mem_cons.mp ((insI_perm x r).mem_iff.mp hz) with e | e
      · omega
      · exact h.1 z e
    · rename_i hy
      rw [List.pairwise_cons]
      refine ⟨fun z hz => ?_, List.pairwise_cons.mpr h⟩
      rcases List.mem_cons.mp hz with e | e
      · omega
      · have := h.1 z e; omega
theorem sortI_rise : ∀ l : List Int, (sortI l).Pairwise (· ≤ ·)
  | [] => by simp [sortI]
  | x :: r => insI_rise (sortI_rise r)
theorem riseI_one : ∀ {a b : List Int}, a.Perm b → a.Pairwise (· ≤ ·) → b.Pairwise (· ≤ ·) → a = b
  | [], b, p, _, _ => by rw [List.nil_perm.mp p]
  | x :: xs, [], p, _, _ => absurd (List.perm_nil.mp p) (by simp)
  | x :: xs, y :: ys, p, ha, hb => by
    rw [List.pairwise_cons] at ha hb
    have e : x = y := by
      have h1 : x ≤ y := by
        rcases List.mem_cons.mp (p.mem_iff.mpr List.mem_cons_self : y ∈ x :: xs) with e | e
        · omega
        · exact ha.1 y e
      have h2 : y ≤ x := by
        rcases List.mem_cons.mp (p.mem_iff.mp List.mem_cons_self : x ∈ y :: ys) with e | e
        · omega
        · exact hb.1 x e
      omega
    subst e
    rw [riseI_one (List.Perm.cons_inv p) ha.2 hb.2]
/-! sorted of (int, tuple of ints) -/
theorem it_shape {d : D} (h : isIT d = true) : ∃ i ns, d = .tup [.int i, .tup (ns.map .int)] ∧ itOf d = (i, ns) := by
  unfold isIT at h
  split at h
  · rename_i i ds
    cases q : intsOf ds with
    | none => rw [q] at h; cases h
    | some ns =>
      refine ⟨i, ns, ?_, by simp only [itOf, q, Option.getD_some]⟩
      have : ∀ (ds : List D) (ns : List Int), intsOf ds = some ns → ds = ns.map .int := by
        intro ds
        induction ds with
        | nil => intro ns e; simp only [intsOf, Option.some.injEq] at e; subst e; rfl
        | cons d ds ih =>
          intro ns e
          cases d with
          | int b =>
            simp only [intsOf, Option.map_eq_some_iff] at e
            obtain ⟨cs, e1, rfl⟩ := e
            rw [ih cs e1]; rfl
          | _ => simp [intsOf] at e
      rw [this ds ns q]
  · cases h
theorem toPys_ints : ∀ ns : List Int, toPys (ns.map .int) = ns.map .int
  | [] => by simp [toPys]
  | n :: ns => by simp [toPys, toPy, toPys_ints ns]
theorem it_py {d : D} (h : isIT d = true) : toPy d = .tuple [.int (itOf d).1, .tuple ((itOf d).2.map .int)] := by
  obtain ⟨i, ns, rfl, e⟩ := it_shape h
  simp [toPy, toPys, toPys_ints, e]
theorem it_lt {a b : D} (ha : isIT a = true) (hb : isIT b = true) : PySem.W.dataLt (toPy a) (toPy b) = ltIT a b := by
  rw [it_py ha, it_py hb, PySem.W.dataLt_pair (by simp [PySem.W.alike]) (by simp only [PySem.W.alike]; exact PySem.W.alike_ints _ _), PySem.W.dataLt_int]
  have e : PySem.W.dataLt (.tuple ((itOf a).2.map .int)) (.tuple ((itOf b).2.map .int)) = decide ((itOf a).2 < (itOf b).2) := by
    rw [PySem.W.dataLt_tuple]; exact PySem.W.dataLt_ints _ _
  have e2 : PyData.eqv (.tuple ((itOf a).2.map .int)) (.tuple ((itOf b).2.map .int)) = decide ((itOf a).2 = (itOf b).2) := by
    have : ∀ xs ys : List Int, PyData.eqvAll (xs.map .int) (ys.map .int) = decide (xs = ys) := by
      intro xs
      induction xs with
      | nil => intro ys; cases ys <;> simp [PyData.eqvAll]
      | cons x xs ih =>
        intro ys
        cases ys with
        | nil => simp [PyData.eqvAll]
        | cons y ys => simp [PyData.eqvAll, PyData.eqv, ih ys, Bool.decide_and] <;> rfl
    simp only [PyData.eqv]; exact this _ _
  rw [e, e2]
  simp only [ltIT, PyData.eqv, beq_iff_eq]
  generalize (itOf a).1 = i, (itOf a).2 = xs, (itOf b).1 = j, (itOf b).2 = ys
  by_cases h1 : i = j
  · subst h1
    by_cases h2 : xs = ys
    · subst h2; simp
    · simp [h2]
  · simp [h1]
theorem it_okd {d : D} (h : isIT d = true) : D.okd 2 d = true := by
  obtain ⟨i, ns, rfl, _⟩ := it_shape h
  simp [D.okd]
theorem sortT_run {pins : List (Addr × Obj)} {s : Shared} {σ : L2.St} {H : Hp} {Q : VK} {m : Addr → Prop} {p : Addr} {ds : List D} {vs : List V} (hu : X.A.units + 65 < cLine) (I : Inv X pins σ H s) (dom : ∀ a, m a → H a ≠ none) (h1 : H p = some (.lst vs)) (h2 : Rls X.K fa m H ds vs) (ha : ds.all isIT = true) (hl : ds.length ≤ line)
    (q : ∀ v H', Same H H' → Rl X.K fa m H' (.lst (sortT ds)) v → Q v H') : wpAny (model X.prog X.w) X.A (PySem.call (.builtin "sorted") [.ref p]) (EP X pins σ Q) X.xe s := by
  rw [List.all_eq_true] at ha
  obtain ⟨its, rv, pl, hz⟩ := I.list (.of h1)
  have zipp : ∀ {ds : List D} {vs : List V}, Rls X.K fa m H ds vs → (∀ p ∈ ds.zip vs, Rl X.K fa m H p.1 p.2) ∧ (ds.zip vs).map (·.1) = ds ∧ (ds.zip vs).map (·.2) = vs := by
    intro ds
    induction ds with
    | nil => intro vs h; rw [h.nil]; simp
    | cons d ds ih =>
      intro vs h
      obtain ⟨v, r, rfl, h1, h2⟩ := h.uncons
      obtain ⟨g1, g2, g3⟩ := ih h2
      refine ⟨fun p hp => ?_, by simp [g2], by simp [g3]⟩
      simp only [List.zip_cons_cons, List.mem_cons] at hp
      rcases hp with rfl | hp
      · exact h1
      · exact g1 p hp
  obtain ⟨g1, g2, g3⟩ := zipp h2
  have hmd : ∀ z ∈ ds.zip vs, isIT z.1 = true := fun z hz => ha z.1 (by rw [← g2]; exact List.mem_map_of_mem hz)
  have each : ∀ (ds : List D) (vs : List V) (its : List Value), (∀ x ∈ ds, isIT x = true) → Rls X.K fa m H ds vs → Vals vs its → PySem.W.EachIs (fun u (z : D × V) => RelV z.2 u) its (ds.zip vs) ∧ PySem.W.EachIs (fun u (z : D × V) => ∃ as, Reads s.heap u (toPy z.1) as) its (ds.zip vs) := by
    intro ds
    induction ds with
    | nil => intro vs its _ h hv; rw [h.nil] at hv; cases hv; rw [h.nil]; exact ⟨.nil, .nil⟩
    | cons d ds ih =>
      intro vs its hd h hv
      obtain ⟨v, r, rfl, h1, h2⟩ := h.uncons
      cases hv with
      | cons q1 q2 =>
        obtain ⟨i1, i2⟩ := ih _ _ (fun x hx => hd x (by simp [hx])) h2 q2
        exact ⟨.cons q1 i1, .cons (Dp.reads I (toPy d) v _ (Rl.dp (it_okd (hd d (by simp))) h1) q1) i2⟩
  obtain ⟨e1, e2⟩ := each ds vs its ha h2 rv
  have hlen : (ds.zip vs).length = ds.length := by have := congrArg List.length g2; simpa using this
  refine PySem.W.sorted_data (β := D × V) (enc := fun z => toPy z.1) pl.isList e1 e2 ?_ (.inl ?_) (by rw [hlen]; exact line_le hl) (fun z hz => ?_) fun out ho hE => ?_
  · intro d hd d' hd'
    obtain ⟨z, hz, rfl⟩ := List.mem_map.mp hd
    obtain ⟨z', hz', rfl⟩ := List.mem_map.mp hd'
    rw [it_py (hmd z hz), it_py (hmd z' hz')]
    simp [PySem.W.alike, PySem.W.alikeAll, PySem.W.alike_ints]
  · intro d hd
    obtain ⟨z, hz, rfl⟩ := List.mem_map.mp hd
    rw [it_py (hmd z hz)]
    exact ⟨_, _, rfl⟩
  · have := (lay_of (it_okd (hmd z hz))).2
    show X.A.units + 2 + (toPy z.1).depth < cLine
    omega
  · obtain ⟨zs, hzs⟩ : ∃ zs, zs = (ds.zip vs).mergeSort (PySem.W.dataLe false fun z => toPy z.1) := ⟨_, rfl⟩
    rw [← hzs] at hE
    have f1 : zs.map (·.1) = sortT ds := by
      rw [hzs, List.map_mergeSort (s := fun a b => !ltIT b a) (fun a ha b hb => ?_), g2]
      · rfl
      · show (!PySem.W.dataLt (toPy b.1) (toPy a.1)) = _
        rw [it_lt (hmd b hb) (hmd a ha)]
    have hmem : ∀ p ∈ zs, Rl X.K fa m H p.1 p.2 := fun p hp => g1 p (by rw [hzs] at hp; exact List.mem_mergeSort.mp hp)
    have np : H (s.heap.objs.size + 1) = none := I.hok.fresh (Nat.le_succ _)
    have hv2 : Vals (zs.map (·.2)) out := by
      clear hzs f1 hmem ho
      induction hE with
      | nil => exact .nil
      | cons h _ ih => exact .cons h ih
    have rlz : ∀ {zs : List (D × V)}, (∀ p ∈ zs, Rl X.K fa m H p.1 p.2) → Rls X.K fa m H (zs.map (·.1)) (zs.map (·.2)) := by
      intro zs
      induction zs with
      | nil => intro _; simp [Rls]
      | cons z zs ih => intro h; exact .cons (h z (by simp)) (ih fun p hp => h p (by simp [hp]))
    have hl2 : (zs.map (·.2)).length ≤ sizeLine := by
      have : zs.length = ds.length := by rw [hzs, List.length_mergeSort, hlen]
      simp only [List.length_map, this]; exact line_le hl
    obtain ⟨ep, he'⟩ := PyProof.Rows.sortedAll_at s.heap its (List.toArray out)
    refine ⟨.ref _, upd H (s.heap.objs.size + 1) (.lst (zs.map (·.2))), I.laid (t' := s.toks) (fun _ _ => PyProof.Rows.sortedAll_old) (Nat.le_succ _) ⟨hl2, out, ep, hv2, he'⟩, rfl, q _ _ (same_upd np) ?_⟩
    rw [← f1]
    exact .newL dom np (rlz hmem)
theorem sorted_ok (hu : X.A.units + 65 < cLine) : CallR X (.builtin "sorted") (RBi X.K fa (fun ds => match ds with | [d] => sortedD d | _ => none)) := by
  intro pins s σ H xs us Q I r ⟨m, ds, x, dom, hv, ho, q⟩
  match ds, ho, hv with
  | [d], ho, hv =>
    obtain ⟨v, rfl, h⟩ := hv.one
    simp only at ho
    cases d with
    | lst ds =>
      obtain ⟨a, vs, rfl, h1, h2⟩ := vw_sq h
      simp only [sortedD] at ho
      split at ho
      · rename_i ns hi
        split at ho
        · rename_i hl
          simp only [Option.some.injEq] at ho; subst ho
          have e := ints_rls hi h2
          subst e
          refine cr_sorted pins s σ H _ us Q I r ⟨a, _, rfl, .of h1, hl, fun ys p hp hs np => ?_⟩
          have e : ys = sortI ns := riseI_one (hp.trans (sortI_perm ns).symm) hs (sortI_rise ns)
          rw [e]
          exact q _ _ (same_upd np) (.newL dom np (rls_ints _))
        · cases ho
      split at ho
      · rename_i zs e1
        split at ho
        · rename_i hl
          simp only [Option.some.injEq] at ho; subst ho
          have e := strs_rls e1 h2
          subst e
          refine cr_sortedS pins s σ H _ us Q I r ⟨a, _, rfl, .of h1, by simpa using hl, fun ys p hp hs np => ?_⟩
          rw [sorted_is hp hs]
          exact q _ _ (same_upd np) (.newL dom np (rls_strs _))
        · cases ho
      · split at ho
        · rename_i hl
          simp only [Bool.and_eq_true, decide_eq_true_eq] at hl
          simp only [Option.some.injEq] at ho; subst ho
          rw [Vals.ref1 r]
          exact sortT_run hu I dom h1 h2 hl.1 hl.2 q
        · cases ho
    | tup ds =>
      obtain ⟨a, vs, rfl, _, h1, h2⟩ := vw_tup h
      simp only [sortedD, Option.bind_eq_some_iff] at ho
      obtain ⟨zs, e1, e2⟩ := ho
      split at e2
      · rename_i hl
        simp only [Option.some.injEq] at e2; subst e2
        have e := strs_rls e1 h2
        subst e
        refine cr_sortT pins s σ H _ us Q I r ⟨a, _, rfl, .of h1, by simpa using hl, fun ys p hp hs np => ?_⟩
        rw [sorted_is hp hs]
        exact q _ _ (same_upd np) (.newL dom np (rls_strs _))
      · cases e2
    | _ => simp [sortedD] at ho
  | [], ho, _ => simp at ho
  | _ :: _ :: _, ho, _ => simp at ho

/-! ### t[::-1] -/
theorem pick_back (us : List Value) : ((List.range us.length).filterMap fun (m : Nat) => us.toArray[(((us.length : Int) - 1) + (m : Int) * (-1)).toNat]?).toArray = us.reverse.toArray := by
  congr 1
  apply List.ext_getElem?
  intro i
  have key : ∀ k, k ≤ us.length → (List.range k).filterMap (fun (m : Nat) => us.toArray[(((us.length : Int) - 1) + (m : Int) * (-1)).toNat]?) = (List.range k).map fun m => us.getD (us.length - 1 - m) .none := by
    intro k
    induction k with
    | zero => intro _; rfl
    | succ k ih =>
      intro hk
      rw [List.range_succ, List.filterMap_append, List.map_append, ih (by omega)]
      congr 1
      have e : (((us.length : Int) - 1) + (k : Int) * (-1)).toNat = us.length - 1 - k := by omega
      simp only [List.filterMap_cons, List.filterMap_nil, List.map_cons, List.map_nil, e]
      have hlt : us.length - 1 - k < us.length := by omega
      simp [hlt]
  rw [key us.length (Nat.le_refl _)]
  by_cases h : i < us.length
  · rw [List.getElem?_map, List.getElem?_range h, List.getElem?_reverse h]
    have hlt : us.length - 1 - i < us.length := by omega
    simp [hlt]
  · rw [List.getElem?_eq_none (by simp; omega), List.getElem?_eq_none (by simp; omega)]
theorem adj_back (n : Nat) : Builtin.Slice.sliceAdjust none none (-1) (n : Int) = ((n : Int) - 1, -1) := by
  unfold Builtin.Slice.sliceAdjust
  simp
theorem plc_back (n : Nat) : Builtin.Slice.slicePlaces ((n : Int) - 1) (-1) (-1) = n := by
  unfold Builtin.Slice.slicePlaces
  simp
  omega
theorem app_back {prog : Program} {w : World} {A : Around} {E : Value → Shared → Prop} {s : Shared} {sl : Addr} {vl vu vs : Value} {n : Nat} {Q : Int × Int × Nat → Shared → Prop} (hs : s.heap.IsSliceOf sl vl vu vs) (pl : IsPart vl none) (pu : IsPart vu none) (pt : IsPart vs (some (-1)))
    (q : Q ((n : Int) - 1, -1, n) s) : wpAny (model prog w) A (Builtin.Slice.sliceApplied (.ref sl) (pure (n : Int))) Q E s := by
  obtain ⟨os, hos, hcs, hds⟩ := id hs
  unfold Builtin.Slice.sliceApplied Builtin.Slice.sliceFields
  refine wpAny_bind (wpAny_bind (wpAny_field hos hds (x := vl) rfl (wpAny_bind (wpAny_field hos hds (x := vu) rfl (wpAny_bind (wpAny_field hos hds (x := vs) rfl (wpAny_pure ?_)))))))
  refine wpAny_bind (HT.slicePart_ pt ?_)
  show wpAny _ _ (if ((-1 : Int) == 0) = true then _ else _) _ _ s
  rw [if_neg (by decide)]
  refine wpAny_bind (HT.slicePart_ pl (wpAny_bind (HT.slicePart_ pu (wpAny_bind (wpAny_pure ?_)))))
  show wpAny _ _ (match Builtin.Slice.sliceAdjust none none (-1) (n : Int) with | (lo, hi) => pure (lo, (-1 : Int), Builtin.Slice.slicePlaces lo hi (-1))) _ _ s
  rw [adj_back n]
  show wpAny _ _ (pure ((n : Int) - 1, (-1 : Int), Builtin.Slice.slicePlaces ((n : Int) - 1) (-1) (-1))) _ _ s
  rw [plc_back]
  exact wpAny_pure q
theorem get_back {prog : Program} {w : World} {A : Around} {E : Value → Shared → Prop} {s : Shared} {t sl : Addr} {us : List Value} {vl vu vs : Value} {Q : Value → Shared → Prop} (ht : IsTup s.heap t us.toArray) (hs : s.heap.IsSliceOf sl vl vu vs) (pl : IsPart vl none) (pu : IsPart vu none) (pt : IsPart vs (some (-1)))
    (q : Q (.ref s.heap.objs.size) { s with heap := s.heap.push { cls := .type "tuple", data := .seq us.reverse.toArray } }) (hz : us.length ≤ sizeLine) : wpAny (model prog w) A (getItem (.ref t) (.ref sl)) Q E s := by
  have hsz : sizeOk (.seq us.reverse.toArray) := by show us.reverse.toArray.size ≤ sizeLine; rw [List.size_toArray, List.length_reverse]; exact hz
  obtain ⟨os, hos, hcs, hds⟩ := id hs
  have hTs : s.TypeIs (.ref sl) "slice" := ⟨os, hos, hcs⟩
  unfold getItem
  try with_reducible refine wpAny_holding ?_
  first | refine wpAny_bind (wpAny_pure ?_) | skip
  refine wpAny_bind (wpAny_sequenceKey ht.typeIs (by decide) ?_)
  refine wpAny_bind (wpAny_callSpecial?_slot (name := Str.ofString "__getitem__") ht.typeIs PyProof.Rows.slot_tuple_getitem
    (wpAny_call_entry PyProof.Rows.slot_tuple_getitem ht.typeIs entry_tuple_getitem ?_ (args_tuple_getitem _ _)))
  show wpAny _ _ (Builtin.Tuple.tupleItemsOf (.ref t) >>= _) _ _ s
  refine wpAny_bind (tupleItemsOf_ ht ?_)
  refine wpAny_bind (wpAny_typeOf hTs ?_)
  rw [if_pos (by decide)]
  have e0 : us.toArray.size = us.length := by simp
  rw [e0]
  refine wpAny_bind (app_back hs pl pu pt ?_)
  show wpAny _ _ (if (((us.length : Int) - 1) == 0 && (-1 : Int) == 1 && us.length == us.toArray.size) = true then _ else _) _ _ s
  rw [if_neg (by simp), pick_back]
  first
    | exact wpAny_bind (m := Builtin.Tuple.tupleExact _) (wpAny_newObj_type (wpAny_pure ⟨_, rfl, wpAny_pure q⟩) hsz)
    | exact wpAny_bind (m := Builtin.Tuple.tupleExact _) (wpAny_newObj_type (wpAny_bind (wpAny_pure (wpAny_pure ⟨_, rfl, wpAny_pure q⟩))) hsz)
    | exact wpAny_bind (wpAny_bind (m := Builtin.Tuple.tupleExact _) (wpAny_newObj_type (wpAny_pure (wpAny_pure ⟨_, rfl, wpAny_pure q⟩)) hsz))
    | exact wpAny_bind (wpAny_bind (m := Builtin.Tuple.tupleExact _) (wpAny_newObj_type (wpAny_pure ⟨_, rfl, wpAny_pure q⟩) hsz))
/-- e[::-1], a list or a tuple -/
def tRev (K : PySem.W.Frag) (te : TE) : TE := fun σ H Q => te σ H fun x H1 => (∃ a xs, x = .ref a ∧ SqL K H1 a xs ∧ ∀ p, H1 p = none → Q (.ref p) (upd H1 p (.lst xs.reverse))) ∨ (∃ a xs, x = .ref a ∧ SqT K H1 a xs ∧ ∀ p, H1 p = none → Q (.ref p) (upd H1 p (.tup xs.reverse)))
theorem pe_rev {e : Expr} {te : TE} {k : Nat} {p1 p2 p3 pos : Pos} (he : PE X e te) : PE X (.Subscript e (.Slice none none (some (.UnaryOp .USub (.Constant (.int 1) k p1) p2)) p3) pos) (tRev X.K te) := by
  refine ⟨fun pins s σ H Q I h => ?_⟩
  refine Subscript_ (thn (he.run pins s σ H _ I h) fun v s1 ⟨x, H1, I1, r1, q1⟩ => ?_)
  have hst : PO X (some (.UnaryOp .USub (.Constant (.int 1) k p1) p2)) (tPart (tUn (rU fun i => .int (-i)) (tC (.int 1)))) := po_some (pe_un un_neg pe_int)
  refine wpAny_Slice (thn (po_none.run pins s1 σ H1 (fun o H2 => o = none ∧ H2 = H1) I1 ⟨rfl, rfl⟩) fun vl s2 ⟨l, H2, I2, pl, el, e2⟩ => ?_)
  subst el e2
  refine thn (po_none.run pins s2 σ H2 (fun o H3 => o = none ∧ H3 = H2) I2 ⟨rfl, rfl⟩) fun vu s3 ⟨u, H3, I3, pu, eu, e3⟩ => ?_
  subst eu e3
  refine thn (hst.run pins s3 σ H3 (fun o H4 => o = some (-1) ∧ H4 = H3) I3 ⟨1, rfl, -1, rfl, rfl, rfl⟩) fun vs s4 ⟨o, H4, I4, ps, eo, e4⟩ => ?_
  subst eo e4
  have I5 : Inv X pins σ H4 { s4 with heap := s4.heap.push { cls := .type "slice", data := .fields #[vl, vu, vs] } } := I4.kept (t' := s4.toks) fun b ob q => Heap.get?_push_of_some _ q
  rcases q1 with ⟨a, xs, ex, hx, q⟩ | ⟨a, xs, ex, hx, q⟩
  · subst ex
    cases r1
    obtain ⟨its, r, ht, hz⟩ := I5.list hx
    have hlen := r.length
    show wpAny (model X.prog X.w) X.A (subscriptTail e (.Slice none none (some (.UnaryOp .USub (.Constant (.int 1) k p1) p2)) p3) (.ref a) (.ref s4.heap.objs.size)) (EP X pins σ Q) X.xe { s4 with heap := s4.heap.push { cls := .type "slice", data := .fields #[vl, vu, vs] } }
    refine tail_any (ops := [.ref a, .ref s4.heap.objs.size]) ht.isList.typeIs (PySem.slot_list_getitem.lookup) ?_ (by with_unfolding_all rfl)
    refine wpAny_getItem_list_slice ht.isList (Heap.IsSliceOf.new _ vl vu vs) pl pu ps (by decide) ?_ (by rw [List.size_toArray]; omega)
    rw [PySem.W.krv_pick]
    refine ⟨.ref _, _, I5.laid (t' := s4.toks) (o := .lst xs.reverse) (fun b ob q => Heap.get?_push_of_some _ q) (Nat.le_refl _) ?_, rfl, q _ (I5.hok.fresh (Nat.le_refl _))⟩
    exact ⟨by rw [List.length_reverse]; exact hz, _, 0, r.reverse, Heap.get?_push_size _ rfl⟩
  · subst ex
    cases r1
    obtain ⟨its, r, ht, hz⟩ := I5.tuple hx
    have hlen := r.length
    show wpAny (model X.prog X.w) X.A (subscriptTail e (.Slice none none (some (.UnaryOp .USub (.Constant (.int 1) k p1) p2)) p3) (.ref a) (.ref s4.heap.objs.size)) (EP X pins σ Q) X.xe { s4 with heap := s4.heap.push { cls := .type "slice", data := .fields #[vl, vu, vs] } }
    refine tail_any (ops := [.ref a, .ref s4.heap.objs.size]) ht.typeIs (PyProof.Rows.slot_tuple_getitem.lookup) ?_ (by with_unfolding_all rfl)
    refine get_back ht (Heap.IsSliceOf.new _ vl vu vs) pl pu ps ?_ (by omega)
    refine ⟨.ref _, _, I5.laid (t' := s4.toks) (o := .tup xs.reverse) (fun b ob q => Heap.get?_push_of_some _ q) (Nat.le_refl _) ?_, rfl, q _ (I5.hok.fresh (Nat.le_refl _))⟩
    exact ⟨by rw [List.length_reverse]; exact hz, _, r.reverse, IsTup.new _ _⟩
theorem r_rev {k : Nat} {p1 p2 p3 : Pos} (ha : PE X a (rdE X.K fa XE ea)) : PE X (.Subscript a (.Slice none none (some (.UnaryOp .USub (.Constant (.int 1) k p1) p2)) p3) pos) (rdE X.K fa XE (ev1 revD ea)) :=
  pe_of (pe_rev ha) fun σ H Q ⟨ρ, σ', M, sl, rp, q⟩ => by
    refine ⟨ρ, σ', M, sl, rp, (Post.bind q).mono fun v H1 ⟨w, ρ1, M1, t1, rp1, rl1, q1⟩ => ?_⟩
    obtain ⟨y, e1, q1⟩ := Post.of q1
    obtain ⟨z, e2, q1⟩ := Post.val q1 rp1
    have vw := rl1.vw rp1 e1
    cases y with
    | lst ds =>
      obtain ⟨p, vs, rfl, h1, h2⟩ := vw_sq vw
      simp only [revD, Option.some.injEq] at e2; subst e2
      exact .inl ⟨p, vs, rfl, .of h1, fun t nt => q1 _ _ (same_upd nt) (.newL (fun a h => rp1.dom h) nt h2.reverse)⟩
    | tup ds =>
      obtain ⟨p, vs, rfl, _, h1, h2⟩ := vw_tup vw
      simp only [revD, Option.some.injEq] at e2; subst e2
      exact .inr ⟨p, vs, rfl, .of h1, fun t nt => q1 _ _ (same_upd nt) (.newT (fun a h => rp1.dom h) nt h2.reverse)⟩
    | _ => simp [revD] at e2
end
end G

set_option Elab.async false
set_option linter.all false
set_option autoImplicit false
set_option maxRecDepth 100000
set_option maxHeartbeats 4000000
/-! Soundness, part 8: what is walked; comprehensions. -/
namespace G
open PySem PySem.Spec PyProof.Rows L2

section
variable (K : PySem.W.Frag) (fa : FW)
/-- from one state to a later one, whoever makes a list meanwhile -/
structure Td (ρ : Rho) (H : Hp) (ρ' : Rho) (H' : Hp) : Prop where
  keep : Kp (mu ρ) (mu ρ') H H'
  len : ρ.ls.length ≤ ρ'.ls.length
  head : ∀ (l : Nat) (a : Addr) (as : List Addr), l < ρ.ls.length → ρ'.ls[l]? = some (a :: as) → ∃ as0, ρ.ls[l]? = some (a :: as0) ∧ as0 <+: as
/-- the iterator J gives the items xs, while chk holds -/
structure Wk (ρ0 : Rho) (H0 : Hp) (p : List D × (Mem → Bool)) (J : L2.It) : Prop where
  go : ∀ ρ H M, Td ρ0 H0 ρ H → Rep K fa ρ H M → p.2 M = true → ∀ (i : Nat) (x : D), p.1[i]? = some x → J.go i H ∧ ∀ v H', J.yld i H v H' → Same H H' ∧ Rl K fa (mu ρ) H' x v
  stop : ∀ ρ H M, Td ρ0 H0 ρ H → Rep K fa ρ H M → p.2 M = true → J.stop p.1.length H
def rdI (XE : XP) (ev : Sl → Mem → R (List D × (Mem → Bool))) : TI := fun σV H Q => ∃ ρ σ M, Sls K fa ρ H σ σV ∧ Rep K fa ρ H M ∧ Post K fa XE ρ H (ev σ M) (Wk K fa) Q
variable {K fa}
theorem To.td {ρ ρ' : Rho} {H H' : Hp} (t : To ρ H ρ' H') : Td ρ H ρ' H' := ⟨t.keep, t.len, t.head⟩
theorem Td.trans {ρ ρ1 ρ2 : Rho} {H H1 H2 : Hp} (a : Td ρ H ρ1 H1) (b : Td ρ1 H1 ρ2 H2) : Td ρ H ρ2 H2 :=
  ⟨fun c o h n => b.keep c o (a.keep c o h n).1 (a.keep c o h n).2, Nat.le_trans a.len b.len, fun l c as hl h => by
    obtain ⟨as1, h1, p1⟩ := b.head l c as (Nat.lt_of_lt_of_le hl a.len) h
    obtain ⟨as2, h2, p2⟩ := a.head l c as1 hl h1
    exact ⟨as2, h2, p2.trans p1⟩⟩
theorem Td.own {ρ ρ1 : Rho} {H H1 : Hp} {p : Addr} (t : Td ρ H ρ1 H1) (np : H p = none) : Td ρ H (ρ1.own p) H1 :=
  ⟨fun a o h n => ⟨(t.keep a o h n).1, fun h2 => by
    rcases mu_own.mp h2 with h3 | h3
    · exact (t.keep a o h n).2 h3
    · rw [h3, np] at h; cases h⟩, t.len, t.head⟩
theorem RlW.td {ρ ρ' : Rho} {H H' : Hp} (t : Td ρ H ρ' H') {w : W} {v : V} (h : RlW K fa ρ H w v) : RlW K fa ρ' H' w v := by
  cases w with
  | d x => exact Rl.keep t.keep h
  | r l =>
    refine ⟨Nat.lt_of_lt_of_le h.1 t.len, fun a as e => ?_⟩
    obtain ⟨as0, e0, _⟩ := t.head l a as h.1 e
    exact h.2 a as0 e0
  | rf l f =>
    obtain ⟨b, e, hl, h⟩ := h
    have hl' := Nat.lt_of_lt_of_le hl t.len
    exact ⟨b, e, hl', rf_keep hl (List.getElem?_eq_getElem hl') (fun a as e1 => t.head l a as hl e1) h⟩
theorem Sls.td {ρ ρ' : Rho} {H H' : Hp} (t : Td ρ H ρ' H') {σ : Sl} {σV : StV} (h : Sls K fa ρ H σ σV) : Sls K fa ρ' H' σ σV :=
  ⟨h.1, fun i w e => let ⟨v, e1, r⟩ := h.2 i w e; ⟨v, e1, r.td t⟩⟩
end

section
variable {X : Cx} {fa : FW} {XE : XP} {a b c e tg : Expr} {es : List Expr} {pos : Pos} {ea eb ec : Sl → Mem → R W} {evs : Sl → Mem → R (List W)}
def evSeq (ea : Sl → Mem → R W) : Sl → Mem → R (List D × (Mem → Bool)) := fun σ M => (ea σ M).bind fun w M => ofO (asD M w) fun x => ofO (itemsD x) fun xs => .ok (xs, still w x) M
theorem wk_list {ρ0 : Rho} {H0 : Hp} {p : Addr} {ds : List D} {chk : Mem → Bool} (h : ∀ ρ H M, Td ρ0 H0 ρ H → Rep X.K fa ρ H M → chk M = true → ∃ vs, SqL X.K H p vs ∧ Rls X.K fa (mu ρ) H ds vs) : Wk X.K fa ρ0 H0 (ds, chk) (Itl X.K p) where
  go := fun ρ H M t rp c i x e => by
    obtain ⟨vs, h1, h2⟩ := h ρ H M t rp c
    obtain ⟨v, e1, r⟩ := h2.get e
    refine ⟨⟨vs, v, h1, e1⟩, fun u H' hy => ?_⟩
    obtain ⟨rfl, hy⟩ := hy
    have := hy vs h1
    rw [e1] at this
    cases this
    exact ⟨.refl _, r⟩
  stop := fun ρ H M t rp c => by
    obtain ⟨vs, h1, h2⟩ := h ρ H M t rp c
    exact ⟨vs, h1, by rw [← h2.length]; exact Nat.le_refl _⟩
theorem wk_tup {ρ0 : Rho} {H0 : Hp} {p : Addr} {ds : List D} {chk : Mem → Bool} (h : ∀ ρ H M, Td ρ0 H0 ρ H → Rep X.K fa ρ H M → chk M = true → ∃ vs, SqT X.K H p vs ∧ Rls X.K fa (mu ρ) H ds vs) : Wk X.K fa ρ0 H0 (ds, chk) (Itt X.K p) where
  go := fun ρ H M t rp c i x e => by
    obtain ⟨vs, h1, h2⟩ := h ρ H M t rp c
    obtain ⟨v, e1, r⟩ := h2.get e
    refine ⟨⟨vs, v, h1, e1⟩, fun u H' hy => ?_⟩
    obtain ⟨rfl, hy⟩ := hy
    have := hy vs h1
    rw [e1] at this
    cases this
    exact ⟨.refl _, r⟩
  stop := fun ρ H M t rp c => by
    obtain ⟨vs, h1, h2⟩ := h ρ H M t rp c
    exact ⟨vs, h1, by rw [← h2.length]; exact Nat.le_refl _⟩
theorem wk_str {ρ0 : Rho} {H0 : Hp} {z : List Nat} {chk : Mem → Bool} : Wk X.K fa ρ0 H0 (z.map fun c => D.str [c], chk) (Its ⟨z.toArray⟩) where
  go := fun ρ H M t rp c i x e => by
    rw [List.getElem?_map] at e
    cases q : z[i]? with
    | none => rw [q] at e; simp at e
    | some k =>
      rw [q] at e
      simp only [Option.map_some, Option.some.injEq] at e
      subst e
      have hlt := (List.getElem?_eq_some_iff.mp q).1
      refine ⟨by simpa [Its] using hlt, fun u H' hy => ?_⟩
      obtain ⟨rfl, k', e1, rfl⟩ := hy
      have e2 : z[i]? = some k' := by simpa using e1
      rw [q] at e2; cases e2
      exact ⟨.refl _, by simp [Rl]⟩
  stop := fun ρ H M t rp c => by simp [Its]
theorem wk_range {ρ0 : Rho} {H0 : Hp} {n : Nat} {chk : Mem → Bool} : Wk X.K fa ρ0 H0 ((List.range n).map (fun (i : Nat) => D.int (i : Int)), chk) (Itr 0 n) where
  go := fun ρ H M t rp c i x e => by
    rw [List.getElem?_map] at e
    by_cases h : i < n
    · rw [List.getElem?_range h] at e
      simp only [Option.map_some, Option.some.injEq] at e
      subst e
      refine ⟨h, fun u H' hy => ?_⟩
      obtain ⟨rfl, rfl⟩ := hy
      exact ⟨.refl _, by simp [Rl]⟩
    · rw [List.getElem?_eq_none (by simp; omega)] at e; simp at e
  stop := fun ρ H M t rp c => by simp [Itr]
theorem r_seq (ha : PE X a (rdE X.K fa XE ea)) : PI X tg a (rdI X.K fa XE (evSeq ea)) := by
  refine ⟨fun pins s σ H R I ⟨ρ, σ', M, sl, rp, q⟩ => ?_⟩
  refine thn (ha.run pins s σ H _ I ⟨ρ, σ', M, sl, rp, Post.bind q⟩) fun v s1 ⟨y, H1, I1, r1, w, ρ1, M1, t1, rp1, rl1, q1⟩ => ?_
  obtain ⟨x, e1, q1⟩ := Post.of q1
  obtain ⟨xs, e2, q1⟩ := Post.of q1
  have vw := rl1.vw rp1 e1
  have hq : ∀ J, Wk X.K fa ρ1 H1 (xs, still w x) J → R J H1 := fun J hJ => q1.ok rp1 hJ
  have tupc : ∀ (p : Addr) (vs : List V), y = .ref p → SqT X.K H1 p vs → (∀ ρ H M, Td ρ1 H1 ρ H → Rep X.K fa ρ H M → still w x M = true → ∃ vs, SqT X.K H p vs ∧ Rls X.K fa (mu ρ) H xs vs) → wpAny (model X.prog X.w) X.A (pyIter v) (PIE X pins σ tg R) X.xe s1 := by
    intro p vs ey hs hk
    subst ey
    cases r1
    obtain ⟨its, rv, pp, hz⟩ := I1.tuple hs
    refine wpAny_pyIter_tuple (show s1.heap.IsTuple p its.toArray from pp) ?_
    exact pi_one (tk := s1.toks) I1 _ (turn_tuple p _) ⟨_, Heap.get?_push_size _ rfl, rfl, rfl⟩ (hq _ (wk_tup hk))
  have lstc : ∀ (p : Addr) (vs : List V), y = .ref p → SqL X.K H1 p vs → (∀ ρ H M, Td ρ1 H1 ρ H → Rep X.K fa ρ H M → still w x M = true → ∃ vs, SqL X.K H p vs ∧ Rls X.K fa (mu ρ) H xs vs) → wpAny (model X.prog X.w) X.A (pyIter v) (PIE X pins σ tg R) X.xe s1 := by
    intro p vs ey hs hk
    subst ey
    cases r1
    obtain ⟨its, rv, pp, hz⟩ := I1.list hs
    refine wpAny_pyIter_list pp.isList ?_
    exact pi_one (tk := s1.toks) I1 _ (turn_list p _) ⟨_, Heap.get?_push_size _ rfl, rfl, rfl⟩ (hq _ (wk_list hk))
  cases x with
  | tup ds =>
    simp only [itemsD, Option.some.injEq] at e2; subst e2
    obtain ⟨p, vs, ey, n, h1, h2⟩ := vw_tup vw
    exact tupc p vs ey (.of h1) fun ρ2 H2 M2 t2 _ _ => ⟨vs, .of (t2.keep p _ h1 n).1, h2.keep t2.keep⟩
  | ktup ds =>
    simp only [itemsD, Option.some.injEq] at e2; subst e2
    simp only [Vw, Rl] at vw
    obtain ⟨p, vs, ey, h1, h2⟩ := vw
    exact tupc p vs ey (h1 _) fun ρ2 H2 M2 t2 _ _ => ⟨vs, h1 _, h2.keep t2.keep⟩
  | lst ds =>
    simp only [itemsD, Option.some.injEq] at e2; subst e2
    cases w with
    | d x0 =>
      simp only [asD, Option.some.injEq] at e1; subst e1
      have rl := rl1
      simp only [RlW, Rl] at rl
      obtain ⟨p, vs, ey, n, h1, h2⟩ := rl
      exact lstc p vs ey (.of h1) fun ρ2 H2 M2 t2 _ _ => ⟨vs, .of (t2.keep p _ h1 n).1, h2.keep t2.keep⟩
    | r l =>
      have hM : M1[l]? = some (.lst ds) := by
        simp only [asD] at e1
        cases q2 : M1[l]? with
        | none => rw [q2] at e1; simp at e1
        | some o => rw [q2] at e1; cases o <;> simp_all
      obtain ⟨as, g1, p, vs, rfl, g2, g3⟩ := rp1.obj l _ hM
      have ey := rl1.2 p [] g1
      refine lstc p vs ey (.of g2) fun ρ2 H2 M2 t2 rp2 hc => ?_
      have hM2 : M2[l]? = some (.lst ds) := by
        simp only [still, W.isD, Bool.false_or, asD] at hc
        cases q2 : M2[l]? with
        | none => rw [q2] at hc; simp at hc
        | some o =>
          rw [q2] at hc
          cases o with
          | lst ds2 => simp only at hc; have := D.same_eq hc; cases this; rfl
          | dct kvs => simp only at hc; have := D.same_eq hc; cases this
          | _ => simp at hc
      obtain ⟨as2, k1, p2, vs2, rfl, k2, k3⟩ := rp2.obj l _ hM2
      obtain ⟨as0, k4, _⟩ := t2.head l p2 [] rl1.1 k1
      rw [g1] at k4
      simp only [Option.some.injEq, List.cons.injEq] at k4
      obtain ⟨rfl, _⟩ := k4
      exact ⟨vs2, .of k2, k3⟩
    | rf l f =>
      have hM : getI M1 l f = some ds := by
        simp only [asD] at e1
        cases q2 : getI M1 l f with
        | none => rw [q2] at e1; cases e1
        | some d2 => rw [q2] at e1; simp at e1; subst e1; rfl
      obtain ⟨as, p, vs, g1, g2, g3, g4, _⟩ := rp1.changeI (ds' := []) hM
      have ey := rf_ref rl1 g1 g2
      refine lstc p vs ey (.of g3) fun ρ2 H2 M2 t2 rp2 hc => ?_
      have hM2 : getI M2 l f = some ds := by
        simp only [still, W.isD, Bool.false_or, asD] at hc
        cases q2 : getI M2 l f with
        | none => rw [q2] at hc; simp at hc
        | some d2 =>
          rw [q2] at hc
          simp only at hc
          have := D.same_eq hc; cases this; rfl
      obtain ⟨as2, p2, vs2, k1, k2, k3, k4, _⟩ := rp2.changeI (ds' := []) hM2
      have ey2 := rf_ref (rl1.td t2) k1 k2
      rw [ey] at ey2; cases ey2
      exact ⟨vs2, .of k3, k4⟩
  | frz ds =>
    simp only [itemsD, Option.some.injEq] at e2; subst e2
    have vw2 := vw
    obtain ⟨p, vs, ey, h1, h2⟩ := vw_frz vw
    simp only [Vw, Rl] at vw2
    obtain ⟨p', vs', ey', h3, h4⟩ := vw2
    rw [ey] at ey'; cases ey'
    refine lstc p vs' ey ?_ fun ρ2 H2 M2 t2 _ _ => ?_
    · rcases h3 with ⟨o, _, h3⟩ | h3
      · exact .inl (.inr ⟨o, h3⟩)
      · exact h3 _
    · rcases h3 with ⟨o, n, h3⟩ | h3
      · exact ⟨vs', .inl (.inr ⟨o, (t2.keep p _ h3 n).1⟩), h4.keep t2.keep⟩
      · exact ⟨vs', h3 _, h4.keep t2.keep⟩
  | str z =>
    simp only [itemsD, Option.some.injEq] at e2; subst e2
    rw [rl_str] at vw
    subst vw
    obtain ⟨t, rfl⟩ := r1
    cases hz : (⟨z.toArray⟩ : Str).cps.all (· < 128)
    · exact wpAny_pyIter_wide hz (pi_one (tk := s1.toks) I1 _ (turn_str _ _ t "str_iterator" (.inr rfl)) ⟨_, Heap.get?_push_size _ rfl, rfl, rfl⟩ (hq _ wk_str))
    · exact wpAny_pyIter_ascii hz (pi_one (tk := s1.toks) I1 _ (turn_str _ _ t "str_ascii_iterator" (.inl rfl)) ⟨_, Heap.get?_push_size _ rfl, rfl, rfl⟩ (hq _ wk_str))
  | _ => simp [itemsD] at e2
theorem pi_of {it : Expr} {t t' : TI} (h : PI X tg it t) (w : ∀ σ H R, t' σ H R → t σ H R) : PI X tg it t' := ⟨fun pins s σ H R I q => h.run pins s σ H R I (w σ H R q)⟩
def evRange1 (ea : Sl → Mem → R W) : Sl → Mem → R (List D × (Mem → Bool)) := fun σ M => (ea σ M).bind fun w M => match w with
    | .d (.int n) => if -1000000 ≤ n ∧ n ≤ 1000000 then .ok ((List.range n.toNat).map (fun (i : Nat) => D.int (i : Int)), fun _ => true) M else .bad
    | _ => .bad
theorem r_range1 {p : Pos} (hg : Gl X "range") (hm : X.mg "range" = none) (ha : PE X a (rdE X.K fa XE ea)) (hs : starEach [a] X.env = (false, eval a X.env) :: starEach [] X.env) : PI X tg (.Call (.Name "range" p) [a] [] pos) (rdI X.K fa XE (evRange1 ea)) :=
  pi_of (pi_range1 hg hm (pa_cons ha pa_nil hs) hs) fun σ H Q ⟨ρ, σ', M, sl, rp, q⟩ => by
    refine ⟨ρ, σ', M, sl, rp, (Post.bind q).mono fun v H1 ⟨w, ρ1, M1, t1, rp1, rl1, q1⟩ => ?_⟩
    cases w with
    | d x => cases x with
      | int n =>
        simp only at q1
        split at q1
        · rename_i hl
          exact ⟨n, by rw [show v = .int n from rl1], by omega, by omega, q1.ok rp1 wk_range⟩
        · exact q1.elim
      | _ => exact q1.elim
    | _ => exact q1.elim

/-! ### targets -/
def rdG (K : PySem.W.Frag) (fa : FW) (t : Tg) : TG := fun v σV H Q => ∃ ρ x σ σ', Sls K fa ρ H σ σV ∧ Rl K fa (mu ρ) H x v ∧ bindT t x σ = some σ' ∧
  ∀ σV', Sls K fa ρ H σ' σV' → σV'.length = σV.length → (∀ i, i ∉ t.vars → σV'[i]? = σV[i]?) → Q σV' H
def rdGs (K : PySem.W.Frag) (fa : FW) (ts : List Tg) : TGs := fun vs σV H Q => ∃ ρ xs σ σ', Sls K fa ρ H σ σV ∧ Rls K fa (mu ρ) H xs vs ∧ bindTs ts xs σ = some σ' ∧
  ∀ σV', Sls K fa ρ H σ' σV' → σV'.length = σV.length → (∀ i, i ∉ Tg.varss ts → σV'[i]? = σV[i]?) → Q σV' H
theorem pg_of {t t' : TG} (h : PG X tg t) (w : ∀ v σ H Q, t' v σ H Q → t v σ H Q) : PG X tg t' := ⟨fun pins s σ H v u Q I r q => h.run pins s σ H v u Q I r (w v σ H Q q)⟩
theorem pgs_of {t t' : TGs} (h : PGs X es t) (w : ∀ v σ H Q, t' v σ H Q → t v σ H Q) : PGs X es t' := ⟨fun pins s σ H v u Q I r q => h.run pins s σ H v u Q I r (w v σ H Q q)⟩
theorem Sls.put {K : PySem.W.Frag} {ρ : Rho} {H : Hp} {σ : Sl} {σV : StV} {i : Nat} {w : W} {v : V} (h : Sls K fa ρ H σ σV) (r : RlW K fa ρ H w v) : Sls K fa ρ H (σ.put i w) (σV.set i (some v)) := by
  refine ⟨by simp [Sl.put, h.1], fun j u e => ?_⟩
  unfold Sl.put at e
  by_cases hj : i = j
  · subst hj
    by_cases hl : i < σ.length
    · rw [List.getElem?_set_self hl] at e
      simp only [Option.some.injEq] at e; subst e
      exact ⟨v, by rw [List.getElem?_set_self (by rw [← h.1]; exact hl)], r⟩
    · rw [List.getElem?_eq_none (by simp; omega)] at e; cases e
  · rw [List.getElem?_set_ne hj] at e
    obtain ⟨z, e1, r1⟩ := h.2 j u e
    exact ⟨z, by rw [List.getElem?_set_ne hj]; exact e1, r1⟩
theorem g_name {i : Nat} {x : Str} (h : PG X (.Name x pos) (gName i)) : PG X (.Name x pos) (rdG X.K fa (.nm i)) :=
  pg_of h fun v σV H Q ⟨ρ, x, σ, σ', sl, rl, e, q⟩ => by
    simp only [bindT, Option.some.injEq] at e; subst e
    refine q _ (sl.put rl) (by simp) fun j hj => ?_
    rw [List.getElem?_set_ne]
    intro e; subst e; simp [Tg.vars] at hj
theorem gs_nil : PGs X [] (rdGs X.K fa []) := pgs_of pgs_nil fun v σV H Q ⟨ρ, xs, σ, σ', sl, rl, e, q⟩ => by
  cases xs with
  | nil =>
    simp only [bindTs, Option.some.injEq] at e; subst e
    exact ⟨rl.nil, q _ sl rfl fun _ _ => rfl⟩
  | cons x xs => simp [bindTs] at e
theorem gs_cons {t : Tg} {ts : List Tg} (h1 : PG X e (rdG X.K fa t)) (h2 : PGs X es (rdGs X.K fa ts)) (hs : (assignEach (e :: es) X.env).map (·.2) = assign e X.env :: (assignEach es X.env).map (·.2)) : PGs X (e :: es) (rdGs X.K fa (t :: ts)) :=
  pgs_of (pgs_cons h1 h2 hs) fun vs σV H Q ⟨ρ, xs, σ, σ', sl, rl, eb, q⟩ => by
    cases xs with
    | nil => simp [bindTs] at eb
    | cons x xs =>
      obtain ⟨v, r, rfl, r1, r2⟩ := rl.uncons
      simp only [bindTs, Option.bind_eq_some_iff] at eb
      obtain ⟨σ1, e1, e2⟩ := eb
      refine ⟨v, r, rfl, ρ, x, σ, σ1, sl, r1, e1, fun σV1 s1 l1 k1 => ?_⟩
      refine ⟨ρ, xs, σ1, σ', s1, r2, e2, fun σV2 s2 l2 k2 => q σV2 s2 (l2.trans l1) fun i hi => ?_⟩
      simp only [Tg.varss, List.mem_append, not_or] at hi
      rw [k2 i hi.2, k1 i hi.1]
theorem g_tup {ts : List Tg} {k : Nat} {n : Nat} (hc : X.calm = true) (h : PGs X es (rdGs X.K fa ts)) (hn : (assignEach es X.env).length = n) (hst : (assignEach es X.env).findIdx? (·.1) = none) (hl : ts.length = n) : PG X (.Tuple es k pos) (rdG X.K fa (.tup ts)) :=
  pg_of (pg_tup hc h hn hst) fun v σV H Q ⟨ρ, x, σ, σ', sl, rl, e, q⟩ => by
    cases x with
    | tup ds =>
      simp only [bindT] at e
      simp only [Rl] at rl
      obtain ⟨a, vs, ev, _, h1, h2⟩ := rl
      refine ⟨a, vs, ev, .of h1, ?_, ρ, ds, σ, σ', sl, h2, e, fun σV' s' l' k' => q σV' s' l' k'⟩
      rw [← h2.length, ← hl]
      have key : ∀ (ts : List Tg) (ds : List D) (σ : Sl), bindTs ts ds σ = some σ' → ds.length = ts.length := by
        intro ts
        induction ts with
        | nil => intro ds σ e; cases ds with
          | nil => rfl
          | cons _ _ => simp [bindTs] at e
        | cons t ts ih => intro ds σ e; cases ds with
          | nil => simp [bindTs] at e
          | cons d ds =>
            simp only [bindTs, Option.bind_eq_some_iff] at e
            obtain ⟨σ1, _, e2⟩ := e
            simp [ih ds σ1 e2]
      exact key ts ds σ e
    | _ => simp [bindT] at e

/-! ### the loop of a comprehension -/
theorem wipeV_get {σ : StV} {i : Nat} : ∀ {vs : List Nat}, i ∉ vs → (L2.wipe σ vs)[i]? = σ[i]? := fun h => L2.wipe_out h
theorem wipe_len (σ : Sl) : ∀ vs : List Nat, (wipe σ vs).length = σ.length
  | [] => rfl
  | v :: vs => by simp [wipe, wipe_len σ vs]
theorem wipe_some' {σ : Sl} {i : Nat} {w : W} : ∀ {vs : List Nat}, (wipe σ vs)[i]? = some (some w) → σ[i]? = some (some w) ∧ i ∉ vs
  | [], h => ⟨h, by simp⟩
  | v :: vs, h => by
    simp only [wipe] at h
    by_cases e : v = i
    · subst e
      by_cases hl : v < (wipe σ vs).length
      · rw [List.getElem?_set_self hl] at h; cases h
      · rw [List.getElem?_eq_none (by simp; omega)] at h; cases h
    · rw [List.getElem?_set_ne e] at h
      obtain ⟨h1, h2⟩ := wipe_some' h
      exact ⟨h1, by simp only [List.mem_cons, not_or]; exact ⟨fun z => e z.symm, h2⟩⟩
theorem Sls.wipe {K : PySem.W.Frag} {ρ : Rho} {H : Hp} {σ : Sl} {σV : StV} (h : Sls K fa ρ H σ σV) (vs : List Nat) : Sls K fa ρ H (G.wipe σ vs) (L2.wipe σV vs) :=
  ⟨by rw [wipe_len, L2.wipe_length, h.1], fun i w e => by
    obtain ⟨e1, e2⟩ := wipe_some' e
    obtain ⟨v, e3, r⟩ := h.2 i w e1
    exact ⟨v, by rw [wipeV_get e2]; exact e3, r⟩⟩
theorem wipe_at {σ : StV} {i : Nat} : ∀ {vs : List Nat}, i ∈ vs → i < σ.length → (L2.wipe σ vs)[i]? = some none
  | v :: vs, h, hl => by
    simp only [L2.wipe]
    by_cases e : v = i
    · subst e; rw [List.getElem?_set_self (by rw [L2.wipe_length]; exact hl)]
    · rw [List.getElem?_set_ne e]
      refine wipe_at ?_ hl
      rcases List.mem_cons.mp h with h | h
      · exact absurd h.symm e
      · exact h
theorem wipe_ext {σ σ2 : StV} {vs : List Nat} (hl : σ2.length = (L2.wipe σ vs).length) (h : ∀ i, i ∉ vs → σ2[i]? = (L2.wipe σ vs)[i]?) : L2.wipe σ2 vs = L2.wipe σ vs := by
  apply List.ext_getElem?
  intro i
  by_cases hi : i ∈ vs
  · by_cases hlt : i < σ.length
    · rw [wipe_at hi (by rw [hl, L2.wipe_length]; exact hlt), wipe_at hi hlt]
    · rw [List.getElem?_eq_none (by rw [L2.wipe_length, hl, L2.wipe_length]; omega), List.getElem?_eq_none (by rw [L2.wipe_length]; omega)]
  · rw [wipeV_get hi, h i hi]
/-- a list that is made, seen through the block's steps -/
theorem To.through {K : PySem.W.Frag} {ρ1 ρ ρ3 : Rho} {H1 H H' H3 : Hp} {M : Mem} {p : Addr} {o : HO} (t : To ρ1 H1 ρ H) (np : H1 p = none) (rp : Rep K fa (ρ.own p) H M) (s : Same H H') (u : To (ρ.own p) H' (ρ3.own p) H3) : To ρ1 H1 ρ3 (upd H3 p o) := by
  have ex : ρ3.ex = ρ.ex := by have := u.ex; simp only [Rho.own, List.cons.injEq, true_and] at this; exact this
  have nex : p ∉ ρ.ex := fun h => by
    have nd := rp.nd
    simp only [Rho.own] at nd
    exact (List.nodup_cons.mp (List.nodup_append.mp nd).2.1).1 h
  refine ⟨fun a u' h n => ?_, Nat.le_trans t.len u.len, fun l a as hl e => ?_, ex.trans t.ex, fun a ha => ?_⟩
  · have hne : a ≠ p := fun e => by rw [e, np] at h; cases h
    obtain ⟨h2, n2⟩ := t.keep a u' h n
    obtain ⟨h3, n3⟩ := u.keep a u' (s a u' h2) fun z => by
      rcases mu_own.mp z with z | z
      · exact n2 z
      · exact hne z
    exact ⟨by rw [upd_ne hne]; exact h3, fun z => n3 (mu_own.mpr (.inl z))⟩
  · obtain ⟨as1, e1, p1⟩ := u.head l a as (Nat.lt_of_lt_of_le hl t.len) e
    obtain ⟨as2, e2, p2⟩ := t.head l a as1 hl e1
    exact ⟨as2, e2, p2.trans p1⟩
  · have ha' : a ∈ ρ.ex := by rw [t.ex]; exact ha
    have hne : a ≠ p := fun e => nex (e ▸ ha')
    rw [upd_ne hne, u.exk a (by simp [Rho.own, ha'])]
    have hd : H a ≠ none := rp.exd a (by simp [Rho.own, ha'])
    cases q : H a with
    | none => exact absurd q hd
    | some z => rw [s a z q, ← q, t.exk a ha]
abbrev F0 : XP := fun _ _ => False
/-- one turn's end: the item is put to the list -/
theorem own_put {K : PySem.W.Frag} {ρ : Rho} {H : Hp} {M : Mem} {p : Addr} {ds : List D} {vs : List V} {y : D} {v : V} (rp : Rep K fa (ρ.own p) H M) (rl : Rls K fa (mu (ρ.own p)) H ds vs) (ry : Rl K fa (mu (ρ.own p)) H y v) :
    Rep K fa (ρ.own p) (upd H p (.lst (vs ++ [v]))) M ∧ Rls K fa (mu (ρ.own p)) (upd H p (.lst (vs ++ [v]))) (ds ++ [y]) (vs ++ [v]) := by
  have mp : mu (ρ.own p) p := mu_own.mpr (.inr rfl)
  have k : Kp (mu (ρ.own p)) (mu (ρ.own p)) H (upd H p (.lst (vs ++ [v]))) := fun a u h n => ⟨by rw [upd_ne (fun e : a = p => n (by rw [e]; exact mp))]; exact h, n⟩
  exact ⟨rp.ownSet, (rl.append (.one ry)).keep k⟩
theorem own_of {ρ ρ2 : Rho} {p : Addr} {H H2 : Hp} (t : To (ρ.own p) H ρ2 H2) : ∃ ρ3 : Rho, ρ2 = ρ3.own p ∧ ρ3.ex = ρ.ex := by
  refine ⟨⟨ρ2.ls, ρ.ex⟩, ?_, rfl⟩
  have := t.ex
  cases ρ2
  simp only [Rho.own] at this ⊢
  rw [this]
/-- the state within a comprehension: the list at p holds done -/
structure Mid (K : PySem.W.Frag) (fa : FW) (ρ1 : Rho) (H1 : Hp) (p : Addr) (done : List D) (H : Hp) (M : Mem) : Prop where
  ex : ∃ ρ vs, To ρ1 H1 ρ H ∧ Rep K fa (ρ.own p) H M ∧ H p = some (.lst vs) ∧ Rls K fa (mu (ρ.own p)) H done vs
theorem loop_comp {ρ1 : Rho} {H1 : Hp} {p : Addr} {σV : StV} {xs : List D} {chk : Mem → Bool} {J : L2.It} {vs : List Nat} {g : TG} {tt : TT} {te : TE} {bind : D → Option Sl} {cond elt : Sl → Mem → R W}
    {start ds : List D} {Mend M0 : Mem} {Hs : Hp} {Qd : Hp → Prop} (np : H1 p = none)
    (wk : ∀ ρ H M, Td ρ1 H1 ρ H → Rep X.K fa ρ H M → chk M = true → ∀ (i : Nat), (∀ (x : D), xs[i]? = some x → J.go i H ∧ ∀ v H', J.yld i H v H' → Same H H' ∧ Rl X.K fa (mu ρ) H' x v) ∧ J.stop xs.length H)
    (hl : start.length + xs.length ≤ line)
    (hg : ∀ ρ H x σ1 v Q, Td ρ1 H1 ρ H → Rl X.K fa (mu ρ) H x v → bind x = some σ1 → (∀ σV2, Sls X.K fa ρ H σ1 σV2 → L2.wipe σV2 vs = L2.wipe σV vs → Q σV2 H) → g v (L2.wipe σV vs) H Q)
    (ht : ∀ σV2 H Q, rdT X.K fa F0 cond σV2 H Q → tt σV2 H Q) (he : ∀ σV2 H Q, rdE X.K fa F0 elt σV2 H Q → te σV2 H Q)
    (hrun : compLoop chk bind cond elt xs M0 = .ok ds Mend) (h0 : Mid X.K fa ρ1 H1 p start Hs M0) (hend : ∀ H, Mid X.K fa ρ1 H1 p (start ++ ds) H Mend → Qd H) :
    ∃ W : Nat → Nat → Hp → Prop, (∃ m, W 0 m Hs) ∧ ∀ i m H, W i m H →
      (J.stop i H ∧ Qd H) ∨ (J.go i H ∧ ∃ Nx : Hp → Prop, (∀ H', Nx H' → ∃ m', m' < m ∧ W (i + 1) m' H') ∧ ∀ x H', J.yld i H x H' → g x (L2.wipe σV vs) H' fun σ2 H2 => L2.wipe σ2 vs = L2.wipe σV vs ∧ tt σ2 H2 fun b H3 =>
        if b = true then te σ2 H3 fun y H4 => ∃ acc, H4 p = some (.lst acc) ∧ acc.length < sizeLine ∧ Nx (upd H4 p (.lst (acc ++ [y]))) else Nx H3) := by
  refine ⟨fun i m H => i ≤ xs.length ∧ m = xs.length - i ∧ ∃ done rest M, done.length ≤ start.length + i ∧ Mid X.K fa ρ1 H1 p done H M ∧ compLoop chk bind cond elt (xs.drop i) M = .ok rest Mend ∧ done ++ rest = start ++ ds,
    ⟨xs.length, Nat.zero_le _, by simp, start, ds, M0, by simp, h0, by simpa using hrun, rfl⟩, ?_⟩
  rintro i m H ⟨hi, rfl, done, rest, M, hd, ⟨ρ, us, t, rp, hp, rl⟩, run, eq⟩
  have tdo : Td ρ1 H1 (ρ.own p) H := t.td.own np
  by_cases hlt : i < xs.length
  · have hx : xs[i]? = some xs[i] := List.getElem?_eq_getElem hlt
    rw [List.drop_eq_getElem_cons hlt] at run
    simp only [compLoop] at run
    split at run
    · rename_i hchk
      cases hb : bind xs[i] with
      | none => rw [hb] at run; cases run
      | some σ1 =>
        rw [hb] at run
        simp only at run
        obtain ⟨go, yld⟩ := (wk (ρ.own p) H M tdo rp hchk i).1 xs[i] hx
        refine .inr ⟨go, fun H' => ∃ done rest M, done.length ≤ start.length + (i + 1) ∧ Mid X.K fa ρ1 H1 p done H' M ∧ compLoop chk bind cond elt (xs.drop (i + 1)) M = .ok rest Mend ∧ done ++ rest = start ++ ds,
          fun H' hn => ⟨xs.length - (i + 1), by omega, hlt, rfl, hn⟩, fun v H' hy => ?_⟩
        obtain ⟨sm, rx⟩ := yld v H' hy
        have tdo' : Td ρ1 H1 (ρ.own p) H' := tdo.trans (To.td (.same rp sm))
        refine hg (ρ.own p) H' xs[i] σ1 v _ tdo' rx hb fun σV2 sl2 hw => ⟨hw, ht _ _ _ ?_⟩
        refine ⟨ρ.own p, σ1, M, sl2, rp.same sm, ?_⟩
        cases hc : cond σ1 M with
        | exc c M2 => rw [hc] at run; cases run
        | bad => rw [hc] at run; cases run
        | ok w M2 =>
          rw [hc] at run
          cases w with
          | d z =>
            cases z with
            | bl k =>
              intro ρ2 H2 k' t2 rp2 ek
              subst ek
              obtain ⟨ρ3, rfl, ex3⟩ := own_of t2
              have sl3 := sl2.to t2
              cases k' with
              | true =>
                simp only at run
                refine iteT (he _ _ _ ⟨ρ3.own p, σ1, M2, sl3, rp2, ?_⟩)
                cases hv : elt σ1 M2 with
                | exc c M3 => rw [hv] at run; cases run
                | bad => rw [hv] at run; cases run
                | ok w3 M3 =>
                  rw [hv] at run
                  cases w3 with
                  | d y =>
                    simp only at run
                    cases hr : compLoop chk bind cond elt (xs.drop (i + 1)) M3 with
                    | exc c M4 => rw [hr] at run; cases run
                    | bad => rw [hr] at run; cases run
                    | ok ys M4 =>
                      rw [hr] at run
                      simp only [R.ok.injEq] at run
                      obtain ⟨rfl, rfl⟩ := run
                      intro ρ4 H4 u t4 rp4 ru
                      obtain ⟨ρ5, rfl, ex5⟩ := own_of t4
                      have hp4 : H4 p = some (.lst us) := by
                        rw [t4.exk p (by simp [Rho.own]), t2.exk p (by simp [Rho.own])]
                        exact sm _ _ hp
                      have rl4 : Rls X.K fa (mu (ρ5.own p)) H4 done us := ((rl.keep (.same sm)).keep t2.keep).keep t4.keep
                      obtain ⟨rp6, rl6⟩ := own_put rp4 rl4 ru
                      refine ⟨us, hp4, ?_, done ++ [y], ys, M3, ?_, ⟨ρ5, us ++ [u], t.through np rp sm (t2.trans t4), rp6, upd_same, rl6⟩, hr, by simpa using eq⟩
                      · rw [← rl.length]; exact line_lt (by omega)
                      · simp; omega
                  | _ => simp only at run; cases run
              | false =>
                simp only at run
                refine iteF ⟨done, rest, M2, by omega, ?_, run, eq⟩
                have hp2 : H2 p = some (.lst us) := by rw [t2.exk p (by simp [Rho.own])]; exact sm _ _ hp
                refine ⟨ρ3, us, ?_, rp2, hp2, (rl.keep (.same sm)).keep t2.keep⟩
                have := t.through (o := .lst us) np rp sm t2
                rwa [upd_self hp2] at this
            | _ => simp only at run; cases run
          | _ => simp only at run; cases run
    · cases run
  · have ei : i = xs.length := by omega
    subst ei
    rw [List.drop_length] at run
    simp only [compLoop] at run
    split at run
    · rename_i hchk
      simp only [R.ok.injEq] at run
      obtain ⟨rfl, rfl⟩ := run
      rw [List.append_nil] at eq
      subst eq
      exact .inl ⟨(wk (ρ.own p) H M tdo rp hchk xs.length).2, hend H ⟨ρ, us, t, rp, hp, rl⟩⟩
    · cases run
end
end G

set_option Elab.async false
set_option linter.all false
set_option autoImplicit false
set_option maxRecDepth 100000
set_option maxHeartbeats 4000000
/-! Soundness, part 9: comprehensions, methods, statements. -/
namespace G
open PySem PySem.Spec PyProof.Rows L2

section
variable {X : Cx} {fa : FW} {XE : XP} {a b c e tg iter elt : Expr} {es ifs : List Expr} {pos : Pos} {ea eb ec : Sl → Mem → R W} {evs : Sl → Mem → R (List W)}

/-! ### comprehensions -/
variable {evI : Sl → Mem → R (List D × (Mem → Bool))} {evC evX : Sl → Mem → R W} {t : Tg} {scope : Scope} {own : List (Str × Nat)}
def evComp (t : Tg) (evI : Sl → Mem → R (List D × (Mem → Bool))) (evC evX : Sl → Mem → R W) : Sl → Mem → R (List D) := fun σ M => (evI σ M).bind fun p M => compAll p.2 (fun x => bindT t x (wipe σ t.vars)) evC evX p.1 M
theorem bind_assoc {α β γ : Type} (r : R α) (f : α → Mem → R β) (g : β → Mem → R γ) : (r.bind f).bind g = r.bind fun a M => (f a M).bind g := by cases r <;> rfl
/-- the reading of a comprehension, whatever becomes of the list -/
theorem t_comp {n : Nat} {vs : List Nat} {σV : StV} {H : Hp} {Q : VK} (hv : vs = t.vars) (q : rdE X.K fa XE (fun σ M => (evComp t evI evC evX σ M).bind fun ds M => mkL n ds M) σV H Q) :
    tLc (rdI X.K fa XE evI) (rdG X.K fa t) (rdT X.K fa F0 evC) (rdE X.K fa F0 evX) vs σV H Q := by
  subst hv
  obtain ⟨ρ, σ, M, sl, rp, q⟩ := q
  have q : Post X.K fa XE ρ H ((evI σ M).bind fun p M => (compAll p.2 (fun x => bindT t x (wipe σ t.vars)) evC evX p.1 M).bind fun ds M => mkL n ds M) (RlW X.K fa) Q := by
    have := q
    simp only [evComp, bind_assoc] at this
    exact this
  refine ⟨ρ, σ, M, sl, rp, (Post.bind q).mono fun J H1 ⟨p, ρ1, M1, t1, rp1, wk, q1⟩ dd nD => ?_⟩
  unfold compAll at q1
  split at q1
  · rename_i hl
    cases hr : compLoop p.2 (fun x => bindT t x (wipe σ t.vars)) evC evX p.1 M1 with
    | exc c M2 => exact absurd hr (by
        intro h
        have key : ∀ (xs : List D) (M : Mem), compLoop p.2 (fun x => bindT t x (wipe σ t.vars)) evC evX xs M ≠ .exc c M2 := by
          intro xs
          induction xs with
          | nil => intro M h; simp only [compLoop] at h; split at h <;> cases h
          | cons x xs ih =>
            intro M h
            simp only [compLoop] at h
            split at h
            · split at h
              · cases h
              · split at h
                · split at h
                  · split at h
                    · cases h
                    · cases h
                  · cases h
                · exact ih _ h
                · cases h
            · cases h
        exact key _ _ h)
    | bad => rw [hr] at q1; exact q1.elim
    | ok ds M2 =>
      rw [hr] at q1
      have q2 : Post X.K fa XE ρ1 H1 (mkL n ds M2) (RlW X.K fa) Q := q1
      have sl1 := sl.to t1
      refine loop_comp (X := X) (fa := fa) (xs := p.1) (chk := p.2) (bind := fun x => bindT t x (wipe σ t.vars)) (cond := evC) (elt := evX) (start := []) (ds := ds) (Mend := M2) (M0 := M1) nD
        (fun ρ2 H2 M2 t2 rp2 hc i => ⟨fun x hx => wk.go ρ2 H2 M2 t2 rp2 hc i x hx, wk.stop ρ2 H2 M2 t2 rp2 hc⟩) (by simpa using hl)
        (fun ρ2 H2 x σ1 v Q2 t2 rx hb k => ?_) (fun _ _ _ h => h) (fun _ _ _ h => h) hr ⟨ρ1, [], .same rp1 (same_upd nD), rp1.own nD, upd_same, by simp [Rls]⟩ (fun H2 h2 => ?_)
      · refine ⟨ρ2, x, wipe σ t.vars, σ1, (sl1.td t2).wipe _, rx, hb, fun σV2 s2 l2 k2 => k σV2 s2 (wipe_ext l2 k2)⟩
      · obtain ⟨ρ3, vs, t3, rp3, h3, rl3⟩ := h2
        simp only [List.nil_append] at rl3
        exact mk_own q2 rp3 t3 nD h3 rl3
  · exact q1.elim
theorem r_comp {n : Nat} (hc : X.calm = true) (hN : X.N.Nodup) (hi : PI X tg iter (rdI X.K fa XE evI)) (ok : BlkOk X.N X.env.scope scope own) (hv : own.map (·.2) = t.vars)
    (hg : ∀ (s : Shared) (H : Hp) (C : Addr) (cl : List (Str × Addr)) (fp : List Addr), PG (X.blk s H scope (compEnvC scope cl C X.env) fp) tg (rdG X.K fa t)) (ht : ∀ (s : Shared) (H : Hp) (C : Addr) (cl : List (Str × Addr)) (fp : List Addr), PTs (X.blk s H scope (compEnvC scope cl C X.env) fp) ifs (rdT X.K fa F0 evC))
    (he : ∀ (s : Shared) (H : Hp) (C : Addr) (cl : List (Str × Addr)) (fp : List Addr), PE (X.blk s H scope (compEnvC scope cl C X.env) fp) elt (rdE X.K fa F0 evX)) (hs : ∀ x, foldedSetIterable iter X.env x = pure x) :
    PE X (.ListComp elt [⟨tg, iter, ifs, 0⟩] scope pos) (rdE X.K fa XE fun σ M => (evComp t evI evC evX σ M).bind fun ds M => mkL n ds M) :=
  pe_of (pe_lc hc hN hi ok hg ht he hs) fun _ _ _ q => t_comp hv q
theorem r_ifs0 : PTs X [] (rdT X.K fa XE fun _ M => .ok (.d (.bl true)) M) := ⟨fun pins s σ H Q I ⟨ρ, σ', M, sl, rp, q⟩ => pts_nil.run pins s σ H Q I (q ρ H true (.refl _ _) rp rfl)⟩

/-! ### two clauses -/
variable {tg1 iter1 : Expr} {t1 : Tg} {evI1 : Sl → Mem → R (List D × (Mem → Bool))}
def evComp2 (t t1 : Tg) (evI evI1 : Sl → Mem → R (List D × (Mem → Bool))) (evX : Sl → Mem → R W) : Sl → Mem → R (List D) := fun σ M => (evI σ M).bind fun p M => flatAll p.2 (fun x => bindT t x (wipe σ (t.vars ++ t1.vars))) evI1 (fun σ1 y => bindT t1 y (wipe σ1 t1.vars)) evX p.1 M
theorem Mid.len {K : PySem.W.Frag} {ρ1 : Rho} {H1 H : Hp} {p : Addr} {done : List D} {M : Mem} (h : Mid K fa ρ1 H1 p done H M) : True := trivial
theorem t_comp2 {vs vs1 : List Nat} {σV : StV} {H : Hp} {Q : VK} (hv : vs = t.vars ++ t1.vars) (hv1 : vs1 = t1.vars) (q : rdE X.K fa XE (fun σ M => (evComp2 t t1 evI evI1 evX σ M).bind fun ds M => mkL 0 ds M) σV H Q) :
    tLc2 (rdI X.K fa XE evI) (rdG X.K fa t) tYes (rdI X.K fa F0 evI1) (rdG X.K fa t1) tYes (rdE X.K fa F0 evX) vs vs1 σV H Q := by
  subst hv hv1
  obtain ⟨ρ, σ, M, sl, rp, q⟩ := q
  have q : Post X.K fa XE ρ H ((evI σ M).bind fun p M => (flatAll p.2 (fun x => bindT t x (wipe σ (t.vars ++ t1.vars))) evI1 (fun σ1 y => bindT t1 y (wipe σ1 t1.vars)) evX p.1 M).bind fun ds M => mkL 0 ds M) (RlW X.K fa) Q := by
    have := q
    simp only [evComp2, bind_assoc] at this
    exact this
  refine ⟨ρ, σ, M, sl, rp, (Post.bind q).mono fun J H1 ⟨p, ρ1, M1, tt1, rp1, wk, q1⟩ dd nD => ?_⟩
  cases hr : flatLoop p.2 (fun x => bindT t x (wipe σ (t.vars ++ t1.vars))) evI1 (fun σ1 y => bindT t1 y (wipe σ1 t1.vars)) evX p.1 M1 with
  | exc c M2 => unfold flatAll at q1; rw [hr] at q1; exact q1.elim
  | bad => unfold flatAll at q1; rw [hr] at q1; exact q1.elim
  | ok ds Mend =>
    unfold flatAll at q1
    rw [hr] at q1
    simp only at q1
    split at q1
    case isFalse => exact q1.elim
    rename_i hdl
    have q2 : Post X.K fa XE ρ1 H1 (mkL 0 ds Mend) (RlW X.K fa) Q := q1
    have sl1 := sl.to tt1
    refine ⟨fun i m H => i ≤ p.1.length ∧ m = p.1.length - i ∧ ∃ done rest M, Mid X.K fa ρ1 H1 dd done H M ∧ flatLoop p.2 (fun x => bindT t x (wipe σ (t.vars ++ t1.vars))) evI1 (fun σ1 y => bindT t1 y (wipe σ1 t1.vars)) evX (p.1.drop i) M = .ok rest Mend ∧ done ++ rest = ds,
      ⟨p.1.length, Nat.zero_le _, by simp, [], ds, M1, ⟨ρ1, [], .same rp1 (same_upd nD), rp1.own nD, upd_same, by simp [Rls]⟩, by simpa using hr, rfl⟩, ?_⟩
    rintro i m H2 ⟨hi, rfl, done, rest, M2, ⟨ρ2, us, t2, rp2, hp2, rl2⟩, run, eq⟩
    have tdo : Td ρ1 H1 (ρ2.own dd) H2 := t2.td.own nD
    by_cases hlt : i < p.1.length
    · have hx : p.1[i]? = some p.1[i] := List.getElem?_eq_getElem hlt
      rw [List.drop_eq_getElem_cons hlt] at run
      simp only [flatLoop] at run
      split at run
      case isFalse => cases run
      rename_i hchk
      cases hb : bindT t p.1[i] (wipe σ (t.vars ++ t1.vars)) with
      | none => rw [hb] at run; cases run
      | some σ1 =>
        rw [hb] at run
        simp only at run
        obtain ⟨go, yld⟩ := wk.go (ρ2.own dd) H2 M2 tdo rp2 hchk i p.1[i] hx
        refine .inr ⟨go, fun H' => ∃ done rest M, Mid X.K fa ρ1 H1 dd done H' M ∧ flatLoop p.2 (fun x => bindT t x (wipe σ (t.vars ++ t1.vars))) evI1 (fun σ1 y => bindT t1 y (wipe σ1 t1.vars)) evX (p.1.drop (i + 1)) M = .ok rest Mend ∧ done ++ rest = ds,
          fun H' hn => ⟨p.1.length - (i + 1), by omega, hlt, rfl, hn⟩, fun v H3 hy => ?_⟩
        obtain ⟨sm, rx⟩ := yld v H3 hy
        have tdo3 : Td ρ1 H1 (ρ2.own dd) H3 := tdo.trans (To.td (.same rp2 sm))
        have rp3 := rp2.same sm
        refine ⟨ρ2.own dd, p.1[i], wipe σ (t.vars ++ t1.vars), σ1, (sl1.td tdo3).wipe _, rx, hb, fun σV2 s2 l2 k2 => ⟨wipe_ext l2 fun j hj => k2 j fun h => hj (by simp [h]), ?_⟩⟩
        unfold tYes
        dsimp only
        rw [if_pos rfl]
        refine ⟨ρ2.own dd, σ1, M2, s2, rp3, ?_⟩
        cases hI : evI1 σ1 M2 with
        | exc c M4 => rw [hI] at run; cases run
        | bad => rw [hI] at run; cases run
        | ok p1 M4 =>
          rw [hI] at run
          simp only at run
          cases hC : compLoop p1.2 (fun y => bindT t1 y (wipe σ1 t1.vars)) (fun _ M => .ok (.d (.bl true)) M) evX p1.1 M4 with
          | exc c M5 => rw [hC] at run; cases run
          | bad => rw [hC] at run; cases run
          | ok ys M5 =>
            rw [hC] at run
            simp only at run
            cases hF : flatLoop p.2 (fun x => bindT t x (wipe σ (t.vars ++ t1.vars))) evI1 (fun σ1 y => bindT t1 y (wipe σ1 t1.vars)) evX (p.1.drop (i + 1)) M5 with
            | exc c M6 => rw [hF] at run; cases run
            | bad => rw [hF] at run; cases run
            | ok zs M6 =>
              rw [hF] at run
              simp only [R.ok.injEq] at run
              obtain ⟨rfl, rfl⟩ := run
              intro ρ4 H4 J1 t4 rp4 wk1
              obtain ⟨ρ5, rfl, ex5⟩ := own_of t4
              have sl4 := s2.to t4
              have t14 : To ρ1 H1 ρ5 H4 := by
                have hp4 : H4 dd = some (.lst us) := by rw [t4.exk dd (by simp [Rho.own])]; exact sm _ _ hp2
                have := t2.through (o := .lst us) nD rp2 sm t4
                rwa [upd_self hp4] at this
              have hp4 : H4 dd = some (.lst us) := by rw [t4.exk dd (by simp [Rho.own])]; exact sm _ _ hp2
              have rl4 : Rls X.K fa (mu (ρ5.own dd)) H4 done us := (rl2.keep (.same sm)).keep t4.keep
              have hlen : done.length + ys.length ≤ line := by
                have e := congrArg List.length eq
                simp only [List.length_append] at e
                omega
              exact loop_in (X := X) (fa := fa) (σ1 := σ1) (σV2 := σV2) (ρ4 := ρ5) (H4 := H4) nD t14 rp4 hp4 rl4 sl4 wk1 hC hlen fun H6 hm => ⟨done ++ ys, zs, M5, hm, hF, by simpa using eq⟩
    · have ei : i = p.1.length := by omega
      subst ei
      rw [List.drop_length] at run
      simp only [flatLoop] at run
      split at run
      · rename_i hchk
        simp only [R.ok.injEq] at run
        obtain ⟨rfl, rfl⟩ := run
        rw [List.append_nil] at eq
        subst eq
        exact .inl ⟨wk.stop (ρ2.own dd) H2 M2 tdo rp2 hchk, mk_own q2 rp2 t2 nD hp2 rl2⟩
      · cases run
where
  loop_in {X : Cx} {fa : FW} {t1 : Tg} {evX : Sl → Mem → R W} {ρ1 ρ4 : Rho} {H1 H4 : Hp} {dd : Addr} {us : List V} {done ys : List D} {σ1 : Sl} {σV2 : StV} {p1 : List D × (Mem → Bool)} {J1 : L2.It} {M4 M5 : Mem} {Nx : Hp → Prop}
    (nD : H1 dd = none) (t14 : To ρ1 H1 ρ4 H4) (rp4 : Rep X.K fa (ρ4.own dd) H4 M4) (hp4 : H4 dd = some (.lst us)) (rl4 : Rls X.K fa (mu (ρ4.own dd)) H4 done us) (sl4 : Sls X.K fa (ρ4.own dd) H4 σ1 σV2) (wk1 : Wk X.K fa (ρ4.own dd) H4 p1 J1)
    (hC : compLoop p1.2 (fun y => bindT t1 y (wipe σ1 t1.vars)) (fun _ M => .ok (.d (.bl true)) M) evX p1.1 M4 = .ok ys M5) (hlen : done.length + ys.length ≤ line) (hend : ∀ H, Mid X.K fa ρ1 H1 dd (done ++ ys) H M5 → Nx H) :
    ∃ W1 : Nat → Nat → Hp → Prop, (∃ m, W1 0 m H4) ∧ ∀ j k H, W1 j k H →
      (J1.stop j H ∧ Nx H) ∨ (J1.go j H ∧ ∃ Nx1 : Hp → Prop, (∀ H', Nx1 H' → ∃ k', k' < k ∧ W1 (j + 1) k' H') ∧ ∀ x H', J1.yld j H x H' → rdG X.K fa t1 x (L2.wipe σV2 t1.vars) H' fun σ3 H5 => L2.wipe σ3 t1.vars = L2.wipe σV2 t1.vars ∧ tYes σ3 H5 fun b H6 =>
        if b = true then rdE X.K fa F0 evX σ3 H6 fun y H7 => ∃ acc, H7 dd = some (.lst acc) ∧ acc.length < sizeLine ∧ Nx1 (upd H7 dd (.lst (acc ++ [y]))) else Nx1 H6) := by
    refine ⟨fun i m H => i ≤ p1.1.length ∧ m = p1.1.length - i ∧ ∃ ρ dn rest M vs, To ρ1 H1 ρ H ∧ Td (ρ4.own dd) H4 (ρ.own dd) H ∧ Rep X.K fa (ρ.own dd) H M ∧ H dd = some (.lst vs) ∧ Rls X.K fa (mu (ρ.own dd)) H dn vs ∧ compLoop p1.2 (fun y => bindT t1 y (wipe σ1 t1.vars)) (fun _ M => .ok (.d (.bl true)) M) evX (p1.1.drop i) M = .ok rest M5 ∧ dn ++ rest = done ++ ys,
      ⟨p1.1.length, Nat.zero_le _, by simp, ρ4, done, ys, M4, us, t14, (To.refl _ _).td, rp4, hp4, rl4, by simpa using hC, rfl⟩, ?_⟩
    rintro i m H ⟨hi, rfl, ρ, dn, rest, M, vs, t, td, rp, hp, rl, run, eq⟩
    by_cases hlt : i < p1.1.length
    · have hx : p1.1[i]? = some p1.1[i] := List.getElem?_eq_getElem hlt
      rw [List.drop_eq_getElem_cons hlt] at run
      simp only [compLoop] at run
      split at run
      case isFalse => cases run
      rename_i hchk
      cases hb : bindT t1 p1.1[i] (wipe σ1 t1.vars) with
      | none => rw [hb] at run; cases run
      | some σ3 =>
        rw [hb] at run
        simp only at run
        obtain ⟨go, yld⟩ := wk1.go (ρ.own dd) H M td rp hchk i p1.1[i] hx
        refine .inr ⟨go, fun H' => ∃ ρ dn rest M vs, To ρ1 H1 ρ H' ∧ Td (ρ4.own dd) H4 (ρ.own dd) H' ∧ Rep X.K fa (ρ.own dd) H' M ∧ H' dd = some (.lst vs) ∧ Rls X.K fa (mu (ρ.own dd)) H' dn vs ∧ compLoop p1.2 (fun y => bindT t1 y (wipe σ1 t1.vars)) (fun _ M => .ok (.d (.bl true)) M) evX (p1.1.drop (i + 1)) M = .ok rest M5 ∧ dn ++ rest = done ++ ys,
          fun H' hn => ⟨p1.1.length - (i + 1), by omega, hlt, rfl, hn⟩, fun v H3 hy => ?_⟩
        obtain ⟨sm, rx⟩ := yld v H3 hy
        have td3 : Td (ρ4.own dd) H4 (ρ.own dd) H3 := td.trans (To.td (.same rp sm))
        refine ⟨ρ.own dd, p1.1[i], wipe σ1 t1.vars, σ3, (sl4.td td3).wipe _, rx, hb, fun σV3 s3 l3 k3 => ⟨wipe_ext l3 k3, ?_⟩⟩
        unfold tYes
        dsimp only
        rw [if_pos rfl]
        refine ⟨ρ.own dd, σ3, M, s3, rp.same sm, ?_⟩
        cases hv : evX σ3 M with
        | exc c M3 => rw [hv] at run; cases run
        | bad => rw [hv] at run; cases run
        | ok w3 M3 =>
          rw [hv] at run
          cases w3 with
          | d y =>
            simp only at run
            cases hr : compLoop p1.2 (fun y => bindT t1 y (wipe σ1 t1.vars)) (fun _ M => .ok (.d (.bl true)) M) evX (p1.1.drop (i + 1)) M3 with
            | exc c M6 => rw [hr] at run; cases run
            | bad => rw [hr] at run; cases run
            | ok zs M6 =>
              rw [hr] at run
              simp only [R.ok.injEq] at run
              obtain ⟨rfl, rfl⟩ := run
              intro ρ6 H6 u t6 rp6 ru
              obtain ⟨ρ7, rfl, ex7⟩ := own_of t6
              have hp6 : H6 dd = some (.lst vs) := by rw [t6.exk dd (by simp [Rho.own])]; exact sm _ _ hp
              have rl6 : Rls X.K fa (mu (ρ7.own dd)) H6 dn vs := (rl.keep (.same sm)).keep t6.keep
              obtain ⟨rp8, rl8⟩ := own_put rp6 rl6 ru
              have e := congrArg List.length eq
              simp only [List.length_append, List.length_cons] at e
              refine ⟨vs, hp6, ?_, ρ7, dn ++ [y], zs, M3, vs ++ [u], t.through nD rp sm t6, ?_, rp8, upd_same, rl8, hr, by simpa using eq⟩
              · rw [← rl.length]; exact line_lt (by omega)
              · refine (td3.trans t6.td).trans ⟨fun a o h n => ⟨?_, n⟩, Nat.le_refl _, fun _ _ as _ h => ⟨as, h, List.prefix_rfl⟩⟩
                rw [upd_ne (fun e : a = dd => n (by rw [e]; exact mu_own.mpr (.inr rfl)))]; exact h
          | _ => simp only at run; cases run
    · have ei : i = p1.1.length := by omega
      subst ei
      rw [List.drop_length] at run
      simp only [compLoop] at run
      split at run
      · rename_i hchk
        simp only [R.ok.injEq] at run
        obtain ⟨rfl, rfl⟩ := run
        rw [List.append_nil] at eq
        subst eq
        exact .inl ⟨wk1.stop (ρ.own dd) H M td rp hchk, hend H ⟨ρ, vs, t, rp, hp, rl⟩⟩
      · cases run
theorem pts_yes : PTs X [] tYes := pts_nil
theorem r_comp2 (hc : X.calm = true) (hN : X.N.Nodup) (hi : PI X tg iter (rdI X.K fa XE evI)) (ok : BlkOk X.N X.env.scope scope own) (hv : own.map (·.2) = t.vars ++ t1.vars)
    (hg : ∀ (s : Shared) (H : Hp) (C : Addr) (cl : List (Str × Addr)) (fp : List Addr), PG (X.blk s H scope (compEnvC scope cl C X.env) fp) tg (rdG X.K fa t))
    (hi1 : ∀ (s : Shared) (H : Hp) (C : Addr) (cl : List (Str × Addr)) (fp : List Addr), PI (X.blk s H scope (compEnvC scope cl C X.env) fp) tg1 iter1 (rdI X.K fa F0 evI1))
    (hg1 : ∀ (s : Shared) (H : Hp) (C : Addr) (cl : List (Str × Addr)) (fp : List Addr), PG (X.blk s H scope (compEnvC scope cl C X.env) fp) tg1 (rdG X.K fa t1))
    (he : ∀ (s : Shared) (H : Hp) (C : Addr) (cl : List (Str × Addr)) (fp : List Addr), PE (X.blk s H scope (compEnvC scope cl C X.env) fp) elt (rdE X.K fa F0 evX)) (hs : ∀ x, foldedSetIterable iter X.env x = pure x) (hs1 : ∀ env x, foldedSetIterable iter1 env x = pure x) :
    PE X (.ListComp elt [⟨tg, iter, [], 0⟩, ⟨tg1, iter1, [], 0⟩] scope pos) (rdE X.K fa XE fun σ M => (evComp2 t t1 evI evI1 evX σ M).bind fun ds M => mkL 0 ds M) :=
  pe_of (pe_lc2 hc hN hi ok (vs1 := t1.vars) (fun i h => by rw [hv]; simp [h]) hg (fun _ _ _ _ _ => pts_yes) hi1 hg1 (fun _ _ _ _ _ => pts_yes) he hs hs1) fun _ _ _ q => t_comp2 hv rfl q

/-! ### methods -/
def evMeth (m : Mt) (ea : Sl → Mem → R W) (evs : Sl → Mem → R (List W)) : Sl → Mem → R W := fun σ M => (ea σ M).bind fun w M => if lstW w M then (evs σ M).bind fun ws M => methW m w ws M else .bad
theorem lstW_ty {ρ : Rho} {H : Hp} {M : Mem} {w : W} {v : V} (rp : Rep X.K fa ρ H M) (rl : RlW X.K fa ρ H w v) (h : lstW w M = true) : tyV X.K "list" v H := by
  unfold lstW at h
  cases e : asD M w with
  | none => rw [e] at h; cases h
  | some x =>
    rw [e] at h
    cases x with
    | lst ds =>
      obtain ⟨p, vs, rfl, h1, _⟩ := vw_sq (rl.vw rp e)
      exact .inl ⟨rfl, vs, .of h1⟩
    | _ => cases h
/-- what the three methods want of the values -/
def RMt (K : PySem.W.Frag) (fa : FW) (XE : XP) (m : Mt) : V → List V → Hp → VK → Prop := fun x xs H Q => ∃ ρ w ws M, Rep K fa ρ H M ∧ RlW K fa ρ H w x ∧ RlWs K fa ρ H ws xs ∧ Post K fa XE ρ H (methW m w ws M) (RlW K fa) Q
theorem t_meth {m : Mt} {σ : StV} {H : Hp} {Q : VK} (q : rdE X.K fa XE (evMeth m ea evs) σ H Q) : tBM X.K "list" (RMt X.K fa XE m) (rdE X.K fa XE ea) (rdA X.K fa XE evs) σ H Q := by
  obtain ⟨ρ, σ', M, sl, rp, q⟩ := q
  refine ⟨ρ, σ', M, sl, rp, (Post.bind q).mono fun v H1 ⟨w, ρ1, M1, t1, rp1, rl1, q1⟩ => ?_⟩
  split at q1
  · rename_i hl
    refine ⟨lstW_ty rp1 rl1 hl, ρ1, σ', M1, sl.to t1, rp1, (Post.bind q1).mono fun vs H2 ⟨ws, ρ2, M2, t2, rp2, rl2, q2⟩ => ?_⟩
    exact ⟨ρ2, w, ws, M2, rp2, rl1.to t2, rl2, q2⟩
  · exact q1.elim
theorem rlws_one {K : PySem.W.Frag} {ρ : Rho} {H : Hp} {w : W} {vs : List V} (h : RlWs K fa ρ H [w] vs) : ∃ v, vs = [v] ∧ RlW K fa ρ H w v := by
  obtain ⟨v, r, rfl, h1, h2⟩ := h
  have e : r = [] := h2
  subst e
  exact ⟨v, rfl, h1⟩
theorem append_ok : MtR X "list.append" (RMt X.K fa XE .append) := by
  intro pins s σ H x xs v us Q I rx rv ⟨ρ, w, ws, M, rp, rl, rls, q⟩
  simp only [methW, appendW] at q
  split at q
  · rename_i l x0
    split at q
    · rename_i ds hM
      split at q
      · rename_i hlen
        obtain ⟨u, rfl, ru⟩ := rlws_one rls
        obtain ⟨a, vs, g1, g2, g3, g4⟩ := rp.change (ds' := ds ++ [x0]) hM
        obtain ⟨t1, r1⟩ := g4 (vs ++ [u]) (g3.append (.one ru))
        exact mt_append pins s σ H _ _ v us Q I rx rv ⟨a, vs, u, rl.2 a [] g1, rfl, g2, by rw [← g3.length]; exact line_lt hlen, q ρ _ _ t1 r1 (by simp [RlW, Rl])⟩
      · exact q.elim
    · exact q.elim
  · rename_i l f x0
    split at q
    · rename_i ds hM
      split at q
      · rename_i hlen
        obtain ⟨u, rfl, ru⟩ := rlws_one rls
        obtain ⟨as, a, vs, g1, g2, g3, g4, g5⟩ := rp.changeI (ds' := ds ++ [x0]) hM
        obtain ⟨t1, r1⟩ := g5 (vs ++ [u]) (g4.append (.one ru))
        exact mt_append pins s σ H _ _ v us Q I rx rv ⟨a, vs, u, rf_ref rl g1 g2, rfl, g3, by rw [← g4.length]; exact line_lt hlen, q ρ _ _ t1 r1 (by simp [RlW, Rl])⟩
      · exact q.elim
    · exact q.elim
  · exact q.elim
theorem extend_ok : MtR X "list.extend" (RMt X.K fa XE .extend) := by
  intro pins s σ H x xs v us Q I rx rv ⟨ρ, w, ws, M, rp, rl, rls, q⟩
  simp only [methW, extendW] at q
  split at q
  · rename_i l x0
    split at q
    · rename_i ds hM
      split at q
      · rename_i hlen
        obtain ⟨u, rfl, ru⟩ := rlws_one rls
        simp only [RlW, Rl] at ru
        obtain ⟨b, ws, rfl, _, hb, rb⟩ := ru
        obtain ⟨a, vs, g1, g2, g3, g4⟩ := rp.change (ds' := ds ++ x0) hM
        obtain ⟨t1, r1⟩ := g4 (vs ++ ws) (g3.append rb)
        exact mt_extend pins s σ H _ _ v us Q I rx rv ⟨a, b, vs, ws, rl.2 a [] g1, rfl, g2, hb, by rw [← g3.length, ← rb.length]; exact line_le hlen, q ρ _ _ t1 r1 (by simp [RlW, Rl])⟩
      · exact q.elim
    · exact q.elim
  · exact q.elim
theorem popAt_ok : MtR X "list.pop" (RMt X.K fa XE .popAt) := by
  intro pins s σ H x xs v us Q I rx rv ⟨ρ, w, ws, M, rp, rl, rls, q⟩
  simp only [methW, popW] at q
  split at q
  · rename_i l i
    split at q
    · rename_i ds hM
      split at q
      · rename_i hlen
        split at q
        · rename_i j hj
          split at q
          · rename_i y hy
            obtain ⟨u, rfl, ru⟩ := rlws_one rls
            have eu : u = .int i := ru
            subst eu
            obtain ⟨a, vs, g1, g2, g3, g4⟩ := rp.change (ds' := ds.eraseIdx j) hM
            obtain ⟨t1, r1⟩ := g4 (vs.eraseIdx j) (g3.eraseIdx j)
            obtain ⟨z, e1, rz⟩ := g3.get hy
            have hix : ixN vs.length i = some j := by rw [← g3.length]; exact hj
            obtain ⟨k1, k2, k3, k4⟩ := ixN_seq hix
            have hl : vs.length ≤ line := by rw [← g3.length]; exact hlen
            have hl2 : line = 1000000 := rfl
            refine mt_popAt pins s σ H _ _ v us Q I rx rv ⟨a, vs, i, j, z, rl.2 a [] g1, rfl, g2, by omega, by omega, k1, e1, q ρ _ _ t1 r1 ?_⟩
            exact Rl.keep t1.keep rz
          · exact q.elim
        · exact q.elim
      · exact q.elim
    · exact q.elim
  · rename_i l f i
    split at q
    · rename_i ds hM
      split at q
      · rename_i hlen
        split at q
        · rename_i j hj
          split at q
          · rename_i y hy
            obtain ⟨u, rfl, ru⟩ := rlws_one rls
            have eu : u = .int i := ru
            subst eu
            obtain ⟨as, a, vs, g1, g2, g3, g4, g5⟩ := rp.changeI (ds' := ds.eraseIdx j) hM
            obtain ⟨t1, r1⟩ := g5 (vs.eraseIdx j) (g4.eraseIdx j)
            obtain ⟨z, e1, rz⟩ := g4.get hy
            have hix : ixN vs.length i = some j := by rw [← g4.length]; exact hj
            obtain ⟨k1, k2, k3, k4⟩ := ixN_seq hix
            have hl : vs.length ≤ line := by rw [← g4.length]; exact hlen
            have hl2 : line = 1000000 := rfl
            refine mt_popAt pins s σ H _ _ v us Q I rx rv ⟨a, vs, i, j, z, rf_ref rl g1 g2, rfl, g3, by omega, by omega, k1, e1, q ρ _ _ t1 r1 ?_⟩
            exact Rl.keep t1.keep rz
          · exact q.elim
        · exact q.elim
      · exact q.elim
    · exact q.elim
  · exact q.elim
end
end G

set_option Elab.async false
set_option linter.all false
set_option autoImplicit false
set_option maxRecDepth 100000
set_option maxHeartbeats 4000000
/-! Soundness, part 10: statements. -/
namespace G
open PySem PySem.Spec PyProof.Rows L2

section
variable (K : PySem.W.Frag) (fa : FW)
def PostS (XE : XP) (ρ : Rho) (H : Hp) (o : Out) (D : Ends) : Prop := match o with
  | .nx σ' M' => ∀ ρ' H' σV', To ρ H ρ' H' → Rep K fa ρ' H' M' → Sls K fa ρ' H' σ' σV' → D.nx σV' H'
  | .ret w M' => ∀ ρ' H' v, To ρ H ρ' H' → Rep K fa ρ' H' M' → RlW K fa ρ' H' w v → D.rt v H'
  | .exc c M' => ∀ ρ' H', To ρ H ρ' H' → Rep K fa ρ' H' M' → XE c H'
  | .bad => False
def rdS (XE : XP) (ev : Sl → Mem → Out) : TS := fun D σV H => ∃ ρ σ M, Sls K fa ρ H σ σV ∧ Rep K fa ρ H M ∧ PostS K fa XE ρ H (ev σ M) D
variable {K fa}
theorem PostS.from {XE : XP} {ρ ρ' : Rho} {H H' : Hp} {o : Out} {D : Ends} (h : PostS K fa XE ρ H o D) (t : To ρ H ρ' H') : PostS K fa XE ρ' H' o D := by
  cases o with
  | nx σ M => exact fun ρ2 H2 b t2 rp rl => h ρ2 H2 b (t.trans t2) rp rl
  | ret w M => exact fun ρ2 H2 b t2 rp rl => h ρ2 H2 b (t.trans t2) rp rl
  | exc c M => exact fun ρ2 H2 t2 rp => h ρ2 H2 (t.trans t2) rp
  | bad => exact h
theorem PostS.out {α β : Type} {XE : XP} {ρ : Rho} {H : Hp} {r : R α} {f : α → Mem → Out} {rel : Rho → Hp → α → β → Prop} {D : Ends} (h : PostS K fa XE ρ H (r.out f) D) :
    Post K fa XE ρ H r rel (fun b H1 => ∃ a ρ1 M1, To ρ H ρ1 H1 ∧ Rep K fa ρ1 H1 M1 ∧ rel ρ1 H1 a b ∧ PostS K fa XE ρ1 H1 (f a M1) D) := by
  cases r with
  | ok a M => exact fun ρ2 H2 b t2 rp rl => ⟨a, ρ2, M, t2, rp, rl, PostS.from h t2⟩
  | exc c M => exact h
  | bad => exact h
theorem PostS.of {α : Type} {XE : XP} {ρ : Rho} {H : Hp} {o : Option α} {f : α → Out} {D : Ends} (h : PostS K fa XE ρ H (ofOut o f) D) : ∃ a, o = some a ∧ PostS K fa XE ρ H (f a) D := by
  cases o with
  | none => exact h.elim
  | some a => exact ⟨a, rfl, h⟩
theorem PostS.seq {XE : XP} {ρ : Rho} {H : Hp} {o : Out} {f : Sl → Mem → Out} {D : Ends} (h : PostS K fa XE ρ H (o.andThen f) D) : PostS K fa XE ρ H o { D with nx := rdS K fa XE f D } := by
  cases o with
  | nx σ M => exact fun ρ2 H2 b t2 rp rl => ⟨ρ2, σ, M, rl, rp, PostS.from h t2⟩
  | ret w M => exact h
  | exc c M => exact h
  | bad => exact h
theorem PostS.nx {XE : XP} {ρ : Rho} {H : Hp} {σ : Sl} {σV : StV} {M : Mem} {D : Ends} (h : PostS K fa XE ρ H (.nx σ M) D) (rp : Rep K fa ρ H M) (sl : Sls K fa ρ H σ σV) : D.nx σV H := h ρ H σV (.refl _ _) rp sl
end

section
variable {X : Cx} {fa : FW} {XE : XP} {a b c e tg iter : Expr} {es : List Expr} {pos p2 : Pos} {ea eb ec ee : Sl → Mem → R W} {evs : Sl → Mem → R (List W)} {st : Stmt} {rest body : List Stmt} {e1 e2 : Sl → Mem → Out}
theorem s_nil : PSs X [] (rdS X.K fa XE fun σ M => .nx σ M) := pss_of pss_nil fun D σ H ⟨ρ, σ', M, sl, rp, q⟩ => q.nx rp sl
theorem s_cons (h1 : PS X st (rdS X.K fa XE e1)) (h2 : PSs X rest (rdS X.K fa XE e2)) : PSs X (st :: rest) (rdS X.K fa XE fun σ M => (e1 σ M).andThen fun σ M => e2 σ M) :=
  pss_of (pss_cons h1 h2) fun D σ H ⟨ρ, σ', M, sl, rp, q⟩ => ⟨ρ, σ', M, sl, rp, PostS.seq q⟩
theorem s_expr (he : PE X e (rdE X.K fa XE ee)) (hs : swapsWith e none pos.line X.env = pure false) : PS X (.Expr e pos) (rdS X.K fa XE fun σ M => (ee σ M).out fun _ M => .nx σ M) :=
  ps_of (ps_expr he hs) fun D σ H ⟨ρ, σ', M, sl, rp, q⟩ => ⟨ρ, σ', M, sl, rp, (PostS.out q).mono fun v H1 ⟨w, ρ1, M1, t1, rp1, rl1, q1⟩ => q1.nx rp1 (sl.to t1)⟩
theorem s_ret (he : PE X e (rdE X.K fa XE ee)) : PS X (.Return (some e) pos) (rdS X.K fa XE fun σ M => (ee σ M).out fun w M => .ret w M) :=
  ps_of (ps_ret he) fun D σ H ⟨ρ, σ', M, sl, rp, q⟩ => ⟨ρ, σ', M, sl, rp, (PostS.out q).mono fun v H1 ⟨w, ρ1, M1, t1, rp1, rl1, q1⟩ => q1 ρ1 H1 v (.refl _ _) rp1 rl1⟩
theorem s_asg {i : Nat} {x : Str} (hN : X.N.Nodup) (hi : X.N[i]? = some x) (hx : Loc X.env.scope x) (he : PE X e (rdE X.K fa XE ee)) (hs : swapsWith e (some (.Name x p2)) pos.line X.env = pure false) (hf : X.fn x = true ∨ X.env.scope.names.lookup x = some .local) :
    PS X (.Assign [.Name x p2] e pos) (rdS X.K fa XE fun σ M => (ee σ M).out fun w M => .nx (σ.put i w) M) :=
  ps_of (ps_set hN hi hx he hs hf) fun D σ H ⟨ρ, σ', M, sl, rp, q⟩ => ⟨ρ, σ', M, sl, rp, (PostS.out q).mono fun v H1 ⟨w, ρ1, M1, t1, rp1, rl1, q1⟩ => q1.nx rp1 ((sl.to t1).put rl1)⟩
/-- from a comprehension's reading to that of the statement -/
theorem out_comp {n i : Nat} {evd : Sl → Mem → R (List D)} {D : Ends} {σ : StV} {H : Hp} (q : rdS X.K fa XE (fun σ M => ((evd σ M).bind fun ds M => mkL n ds M).out fun w M => .nx (σ.put i w) M) D σ H) :
    rdE X.K fa XE (fun σ M => (evd σ M).bind fun ds M => mkL n ds M) σ H fun v H1 => D.nx (σ.set i (some v)) H1 := by
  obtain ⟨ρ, σ', M, sl, rp, q⟩ := q
  exact ⟨ρ, σ', M, sl, rp, (PostS.out q).mono fun v H1 ⟨w, ρ1, M1, t1, rp1, rl1, q1⟩ => q1.nx rp1 ((sl.to t1).put rl1)⟩
theorem s_asgLc {n i : Nat} {x : Str} {elt : Expr} {ifs : List Expr} {scope : Scope} {own : List (Str × Nat)} {spos : Pos} {t : Tg} {evI : Sl → Mem → R (List D × (Mem → Bool))} {evC evX : Sl → Mem → R W} (hc : X.calm = true) (hN : X.N.Nodup) (hi : X.N[i]? = some x) (hx : Loc X.env.scope x)
    (hf : X.fn x = true ∨ X.env.scope.names.lookup x = some .local) (hk : X.env.scope.kind = .function) (hi2 : PI X tg iter (rdI X.K fa XE evI)) (ok : BlkOk X.N X.env.scope scope own) (hv : own.map (·.2) = t.vars)
    (hg : ∀ (s : Shared) (H : Hp) (C : Addr) (cl : List (Str × Addr)) (fp : List Addr), PG (X.blk s H scope (compEnvC scope cl C X.env) fp) tg (rdG X.K fa t)) (ht : ∀ (s : Shared) (H : Hp) (C : Addr) (cl : List (Str × Addr)) (fp : List Addr), PTs (X.blk s H scope (compEnvC scope cl C X.env) fp) ifs (rdT X.K fa F0 evC))
    (he : ∀ (s : Shared) (H : Hp) (C : Addr) (cl : List (Str × Addr)) (fp : List Addr), PE (X.blk s H scope (compEnvC scope cl C X.env) fp) elt (rdE X.K fa F0 evX)) (hs : ∀ x, foldedSetIterable iter X.env x = pure x) :
    PS X (.Assign [.Name x p2] (.ListComp elt [⟨tg, iter, ifs, 0⟩] scope pos) spos) (rdS X.K fa XE fun σ M => ((evComp t evI evC evX σ M).bind fun ds M => mkL n ds M).out fun w M => .nx (σ.put i w) M) := by
  have key : swapsWith (.ListComp elt [⟨tg, iter, ifs, 0⟩] scope pos) (some (.Name x p2)) spos.line X.env = pure (X.env.blockKind == .function && X.env.kindOf x == some .local && p2.line == (Expr.ListComp elt [⟨tg, iter, ifs, 0⟩] scope pos).pos.line
      && !(scope.names.any fun (n, k) => n == x && (k == .local || k == .cell))) := rfl
  cases q : (X.env.blockKind == .function && X.env.kindOf x == some .local && p2.line == (Expr.ListComp elt [⟨tg, iter, ifs, 0⟩] scope pos).pos.line
      && !(scope.names.any fun (n, k) => n == x && (k == .local || k == .cell))) with
  | false =>
    rw [q] at key
    exact s_asg hN hi hx (r_comp hc hN hi2 ok hv hg ht he hs) key hf
  | true =>
    rw [q] at key
    have hl : X.env.scope.names.lookup x = some .local := by
      simp only [Bool.and_eq_true] at q
      have := q.1.1.2
      exact eq_of_beq this
    exact ps_of (ps_setLc hc hN hi hl key hi2 ok hg ht he hs) fun D σ H h => t_comp hv (out_comp h)
theorem s_asgLc2 {i : Nat} {x : Str} {elt tg1 iter1 : Expr} {scope : Scope} {own : List (Str × Nat)} {spos : Pos} {t t1 : Tg} {evI evI1 : Sl → Mem → R (List D × (Mem → Bool))} {evX : Sl → Mem → R W} (hc : X.calm = true) (hN : X.N.Nodup) (hi : X.N[i]? = some x) (hx : Loc X.env.scope x)
    (hf : X.fn x = true ∨ X.env.scope.names.lookup x = some .local) (hi2 : PI X tg iter (rdI X.K fa XE evI)) (ok : BlkOk X.N X.env.scope scope own) (hv : own.map (·.2) = t.vars ++ t1.vars)
    (hg : ∀ (s : Shared) (H : Hp) (C : Addr) (cl : List (Str × Addr)) (fp : List Addr), PG (X.blk s H scope (compEnvC scope cl C X.env) fp) tg (rdG X.K fa t))
    (hi1 : ∀ (s : Shared) (H : Hp) (C : Addr) (cl : List (Str × Addr)) (fp : List Addr), PI (X.blk s H scope (compEnvC scope cl C X.env) fp) tg1 iter1 (rdI X.K fa F0 evI1))
    (hg1 : ∀ (s : Shared) (H : Hp) (C : Addr) (cl : List (Str × Addr)) (fp : List Addr), PG (X.blk s H scope (compEnvC scope cl C X.env) fp) tg1 (rdG X.K fa t1))
    (he : ∀ (s : Shared) (H : Hp) (C : Addr) (cl : List (Str × Addr)) (fp : List Addr), PE (X.blk s H scope (compEnvC scope cl C X.env) fp) elt (rdE X.K fa F0 evX)) (hs : ∀ x, foldedSetIterable iter X.env x = pure x) (hs1 : ∀ env x, foldedSetIterable iter1 env x = pure x) :
    PS X (.Assign [.Name x p2] (.ListComp elt [⟨tg, iter, [], 0⟩, ⟨tg1, iter1, [], 0⟩] scope pos) spos) (rdS X.K fa XE fun σ M => ((evComp2 t t1 evI evI1 evX σ M).bind fun ds M => mkL 0 ds M).out fun w M => .nx (σ.put i w) M) := by
  have key : swapsWith (.ListComp elt [⟨tg, iter, [], 0⟩, ⟨tg1, iter1, [], 0⟩] scope pos) (some (.Name x p2)) spos.line X.env = pure (X.env.blockKind == .function && X.env.kindOf x == some .local && p2.line == (Expr.ListComp elt [⟨tg, iter, [], 0⟩, ⟨tg1, iter1, [], 0⟩] scope pos).pos.line
      && !(scope.names.any fun (n, k) => n == x && (k == .local || k == .cell))) := rfl
  cases q : (X.env.blockKind == .function && X.env.kindOf x == some .local && p2.line == (Expr.ListComp elt [⟨tg, iter, [], 0⟩, ⟨tg1, iter1, [], 0⟩] scope pos).pos.line
      && !(scope.names.any fun (n, k) => n == x && (k == .local || k == .cell))) with
  | false =>
    rw [q] at key
    exact s_asg hN hi hx (r_comp2 hc hN hi2 ok hv hg hi1 hg1 he hs hs1) key hf
  | true =>
    rw [q] at key
    have hl : X.env.scope.names.lookup x = some .local := by
      simp only [Bool.and_eq_true] at q
      have := q.1.1.2
      exact eq_of_beq this
    exact ps_of (ps_setLc2 hc hN hi hl key hi2 ok (vs1 := t1.vars) (fun i h => by rw [hv]; simp [h]) hg (fun _ _ _ _ _ => pts_yes) hi1 hg1 (fun _ _ _ _ _ => pts_yes) he hs hs1) fun D σ H h => t_comp2 hv rfl (out_comp h)

/-! ### a, b = e -/
def evUn (ts : List Tg) (ee : Sl → Mem → R W) : Sl → Mem → Out := fun σ M => (ee σ M).out fun w M => ofOut (asD M w) fun x => match x with
      | .tup ds => ofOut (bindTs ts ds σ) fun σ => .nx σ M
      | .lst ds => ofOut (bindTs ts ds σ) fun σ => .nx σ M
      | _ => .bad
theorem bindTs_len : ∀ {ts : List Tg} {ds : List D} {σ σ' : Sl}, bindTs ts ds σ = some σ' → ds.length = ts.length
  | [], [], _, _, _ => rfl
  | [], _ :: _, _, _, e => by simp [bindTs] at e
  | _ :: _, [], _, _, e => by simp [bindTs] at e
  | t :: ts, d :: ds, σ, σ', e => by
    simp only [bindTs, Option.bind_eq_some_iff] at e
    obtain ⟨σ1, _, e2⟩ := e
    simp [bindTs_len e2]
theorem pg_or {t t' : TG} (h : PG X tg t) (h' : PG X tg t') : PG X tg (fun v σ H Q => t v σ H Q ∨ t' v σ H Q) :=
  ⟨fun pins s σ H v u Q I r q => q.elim (h.run pins s σ H v u Q I r) (h'.run pins s σ H v u Q I r)⟩
theorem s_unpack {ts : List Tg} {k n : Nat} (hc : X.calm = true) (h : PGs X es (rdGs X.K fa ts)) (hn : (assignEach es X.env).length = n) (hst : (assignEach es X.env).findIdx? (·.1) = none) (hl : ts.length = n) (he : PE X e (rdE X.K fa XE ee))
    (hs : swapsWithSole [.Tuple es k p2] e pos.line X.env = pure false) (hw : swappedStores [.Tuple es k p2] e X.env = pure none) : PS X (.Assign [.Tuple es k p2] e pos) (rdS X.K fa XE (evUn ts ee)) :=
  ps_of (ps_asg he (pg_or (pg_tup hc h hn hst) (pg_unl hc h hn hst)) hs hw rfl) fun D σ H ⟨ρ, σ', M, sl, rp, q⟩ => by
    refine ⟨ρ, σ', M, sl, rp, (PostS.out q).mono fun v H1 ⟨w, ρ1, M1, t1, rp1, rl1, q1⟩ => ?_⟩
    obtain ⟨x, ex, q1⟩ := PostS.of q1
    have vw := rl1.vw rp1 ex
    cases x with
    | tup ds =>
      obtain ⟨σ2, e2, q1⟩ := PostS.of q1
      obtain ⟨a, vs, ev, _, h1, h2⟩ := vw_tup vw
      exact .inl ⟨a, vs, ev, .of h1, by rw [← h2.length, bindTs_len e2, hl], ρ1, ds, σ', σ2, sl.to t1, h2, e2, fun σV' s' _ _ => q1.nx rp1 s'⟩
    | lst ds =>
      obtain ⟨σ2, e2, q1⟩ := PostS.of q1
      obtain ⟨a, vs, ev, h1, h2⟩ := vw_sq vw
      exact .inr ⟨a, vs, ev, .of h1, by rw [← h2.length, bindTs_len e2, hl], ρ1, ds, σ', σ2, sl.to t1, h2, e2, fun σV' s' _ _ => q1.nx rp1 s'⟩
    | _ => exact q1.elim
/-! ### a, b = x, y -/
theorem rlws_two {K : PySem.W.Frag} {ρ : Rho} {H : Hp} {w w' : W} {vs : List V} (h : RlWs K fa ρ H [w, w'] vs) : ∃ v v', vs = [v, v'] ∧ RlW K fa ρ H w v ∧ RlW K fa ρ H w' v' := by
  obtain ⟨v, r, rfl, h1, h2⟩ := h
  obtain ⟨v', rfl, h3⟩ := rlws_one h2
  exact ⟨v, v', rfl, h1, h3⟩
theorem rlws_three {K : PySem.W.Frag} {ρ : Rho} {H : Hp} {w w' w2 : W} {vs : List V} (h : RlWs K fa ρ H [w, w', w2] vs) : ∃ v v' v2, vs = [v, v', v2] ∧ RlW K fa ρ H w v ∧ RlW K fa ρ H w' v' ∧ RlW K fa ρ H w2 v2 := by
  obtain ⟨v, r, rfl, h1, h2⟩ := h
  obtain ⟨v', v2, rfl, h3, h4⟩ := rlws_two h2
  exact ⟨v, v', v2, rfl, h1, h3, h4⟩
def evPar (is : List Nat) (evs : Sl → Mem → R (List W)) : Sl → Mem → Out := fun σ M => (evs σ M).out fun ws M => ofOut (putAll is ws σ) fun σ => .nx σ M
theorem s_par2 {i j : Nat} {x y : Str} {px py pt : Pos} {kt k2 : Nat} {pt2 : Pos} (hc : X.calm = true) (hN : X.N.Nodup) (hi : X.N[i]? = some x) (hj : X.N[j]? = some y) (hij : i ≠ j) (hx : X.env.scope.names.lookup x = some .local) (hy : X.env.scope.names.lookup y = some .local) (ha : PA X [a, b] (rdA X.K fa XE evs))
    (hw : swappedStores [.Tuple [.Name x px, .Name y py] kt pt] (.Tuple [a, b] k2 pt2) X.env = pure (some [x, y])) (hs : swapsWithSole [.Tuple [.Name x px, .Name y py] kt pt] (.Tuple [a, b] k2 pt2) pos.line X.env = pure false) :
    PS X (.Assign [.Tuple [.Name x px, .Name y py] kt pt] (.Tuple [a, b] k2 pt2) pos) (rdS X.K fa XE (evPar [i, j] evs)) :=
  ps_of (ps_par hc hN hi hj hij hx hy ha hw hs) fun D σ H ⟨ρ, σ', M, sl, rp, q⟩ => by
    refine ⟨ρ, σ', M, sl, rp, (PostS.out q).mono fun vs H1 ⟨ws, ρ1, M1, t1, rp1, rl1, q1⟩ => ?_⟩
    obtain ⟨σ2, e2, q1⟩ := PostS.of q1
    match ws, e2, rl1 with
    | [w, w'], e2, rl1 =>
      simp only [putAll, Option.some.injEq] at e2; subst e2
      obtain ⟨v, v', rfl, r1, r2⟩ := rlws_two rl1
      exact ⟨v, v', rfl, q1.nx rp1 (((sl.to t1).put r1).put r2)⟩
    | [], e2, _ => simp [putAll] at e2
    | [_], e2, _ => simp [putAll] at e2
    | _ :: _ :: _ :: _, e2, _ => simp [putAll] at e2
theorem s_par3 {i j l : Nat} {x y z : Str} {px py pz pt : Pos} {kt k2 : Nat} {pt2 : Pos} (hc : X.calm = true) (hN : X.N.Nodup) (hi : X.N[i]? = some x) (hj : X.N[j]? = some y) (hl : X.N[l]? = some z) (hij : i ≠ j) (hil : i ≠ l) (hjl : j ≠ l)
    (hx : X.env.scope.names.lookup x = some .local) (hy : X.env.scope.names.lookup y = some .local) (hz : X.env.scope.names.lookup z = some .local) (ha : PA X [a, b, c] (rdA X.K fa XE evs))
    (hw : swappedStores [.Tuple [.Name x px, .Name y py, .Name z pz] kt pt] (.Tuple [a, b, c] k2 pt2) X.env = pure (some [x, y, z])) (hs : swapsWithSole [.Tuple [.Name x px, .Name y py, .Name z pz] kt pt] (.Tuple [a, b, c] k2 pt2) pos.line X.env = pure false) :
    PS X (.Assign [.Tuple [.Name x px, .Name y py, .Name z pz] kt pt] (.Tuple [a, b, c] k2 pt2) pos) (rdS X.K fa XE (evPar [i, j, l] evs)) :=
  ps_of (ps_par3 hc hN hi hj hl hij hil hjl hx hy hz ha hw hs) fun D σ H ⟨ρ, σ', M, sl, rp, q⟩ => by
    refine ⟨ρ, σ', M, sl, rp, (PostS.out q).mono fun vs H1 ⟨ws, ρ1, M1, t1, rp1, rl1, q1⟩ => ?_⟩
    obtain ⟨σ2, e2, q1⟩ := PostS.of q1
    match ws, e2, rl1 with
    | [w, w', w2], e2, rl1 =>
      simp only [putAll, Option.some.injEq] at e2; subst e2
      obtain ⟨v, v', v2, rfl, r1, r2, r3⟩ := rlws_three rl1
      exact ⟨v, v', v2, rfl, q1.nx rp1 ((((sl.to t1).put r1).put r2).put r3)⟩
    | [], e2, _ => simp [putAll] at e2
    | [_], e2, _ => simp [putAll] at e2
    | [_, _], e2, _ => simp [putAll] at e2
    | _ :: _ :: _ :: _ :: _, e2, _ => simp [putAll] at e2

/-! ### x op= e -/
def augOp : Op → Option Operator
  | .add => some .Add
  | .sub => some .Sub
  | _ => none
theorem ip_ok {o : Op} {po : Operator} (h : augOp o = some po) : PIp X po (fun x y H Q => ∃ i j z, x = .int i ∧ y = .int j ∧ augI o i j = some z ∧ Q (.int z) H) := by
  intro pins s σ H x y v u Q I rx ry ⟨i, j, z, e1, e2, e3, q⟩
  cases o <;> simp only [augOp, Option.some.injEq, reduceCtorEq] at h <;> subst h <;> simp only [augI, Option.some.injEq] at e3 <;> subst e3
  · exact ip_add pins s σ H x y v u Q I rx ry ⟨i, j, e1, e2, q⟩
  · exact ip_sub pins s σ H x y v u Q I rx ry ⟨i, j, e1, e2, q⟩
theorem s_aug {i : Nat} {x : Str} {o : Op} {po : Operator} (hN : X.N.Nodup) (hi : X.N[i]? = some x) (hx : Loc X.env.scope x) (ho : augOp o = some po) (he : PE X e (rdE X.K fa XE ee)) (hf : X.fn x = true ∨ X.env.scope.names.lookup x = some .local) :
    PS X (.AugAssign (.Name x p2) po e pos) (rdS X.K fa XE fun σ M => match σ[i]? with
      | some (some (.d (.int x))) => (ee σ M).out fun w M => match w with
        | .d (.int y) => ofOut (augI o x y) fun z => .nx (σ.put i (.d (.int z))) M
        | _ => .bad
      | _ => .bad) :=
  ps_of (ps_aug hN hi hx he (ip_ok ho) hf) fun D σ H ⟨ρ, σ', M, sl, rp, q⟩ => by
    simp only at q
    split at q
    · rename_i y hy
      obtain ⟨v, e1, r1⟩ := sl.2 i _ hy
      have ev : v = .int y := r1
      subst ev
      refine ⟨_, e1, ρ, σ', M, sl, rp, (PostS.out q).mono fun v H1 ⟨w, ρ1, M1, t1, rp1, rl1, q1⟩ => ?_⟩
      cases w with
      | d z => cases z with
        | int k =>
          obtain ⟨m, e2, q1⟩ := PostS.of q1
          exact ⟨y, k, m, rfl, rl1, e2, q1.nx rp1 ((sl.to t1).put (by simp [RlW, Rl]))⟩
        | _ => exact q1.elim
      | _ => exact q1.elim
    · exact q.elim
/-! ### a[i] = e, a[i] op= e -/
def RSet (K : PySem.W.Frag) (fa : FW) : TSet := fun o i v H Q => ∃ ρ w wi x M M', Rep K fa ρ H M ∧ RlW K fa ρ H w o ∧ RlW K fa ρ H wi i ∧ Rl K fa (mu ρ) H x v ∧ setW w wi x M = some M' ∧ ∀ H', To ρ H ρ H' → Rep K fa ρ H' M' → Q H'
theorem set_ok (hp : fa.p = X.prog) (hw : fa.w = X.w) (hu : X.A.units + 65 < cLine) : PSet X (RSet X.K fa) := by
  intro pins s σ H o i v ov iv u Q I ro ri rv ⟨ρ, w, wi, x, M, M', rp, rw', ri', rx, hs, q⟩
  unfold setW at hs
  split at hs
  · rename_i l k
    split at hs
    · rename_i ds j hM
      simp only [Option.map_eq_some_iff] at hs
      obtain ⟨n, hn, rfl⟩ := hs
      obtain ⟨a, vs, g1, g2, g3, g4⟩ := rp.change (ds' := ds.set n x) hM
      obtain ⟨t1, r1⟩ := g4 (vs.set n v) (g3.set rx n)
      have ei : i = .int j := ri'
      exact set_list pins s σ H o i v ov iv u Q I ro ri rv ⟨a, vs, j, n, rw'.2 a [] g1, ei, g2, by rw [← g3.length]; exact hn, q _ t1 r1⟩
    · rename_i kvs k0 hM
      split at hs
      · rename_i hk
        simp only [Bool.and_eq_true, decide_eq_true_eq] at hk
        simp only [Option.some.injEq] at hs; subst hs
        have ri2 : Rl X.K fa (mu ρ) H _ i := ri'
        obtain ⟨b, rfl⟩ := key_ref hk.1 ri2
        cases ri
        obtain ⟨a, rfl, hwp⟩ := dset (E := X.xe) (Q := fun _ s' => ∃ H', L2.Inv X pins σ H' s' ∧ Q H') hp hw hu I rp hM rw' hk.1 hk.2 ri2 rx rv (fun H' s' I' t' r' => ⟨H', I', q H' t' r'⟩)
        cases ro
        exact hwp
      · cases hs
    · cases hs
  · cases hs
theorem s_set (hp : fa.p = X.prog) (hwd : fa.w = X.w) (hu : X.A.units + 65 < cLine) (ho : PE X a (rdE X.K fa XE ea)) (hi : PE X b (rdE X.K fa XE eb)) (he : PE X e (rdE X.K fa XE ee)) (hsw : swapsWithSole [.Subscript a b p2] e pos.line X.env = pure false) (hw : swappedStores [.Subscript a b p2] e X.env = pure none)
    (has : ∀ v, assign (.Subscript a b p2) X.env v = (do
      let ov ← holding [v] (eval a X.env)
      let iv ← holding [v, ov] (eval b X.env)
      standAt p2
      holding [v, ov, iv] (setItem ov iv v)
      release [v, ov, iv] [])) :
    PS X (.Assign [.Subscript a b p2] e pos) (rdS X.K fa XE fun σ M => (ee σ M).out fun w M => match w with
      | .d x => (ea σ M).out fun wa M => (eb σ M).out fun wi M => ofOut (setW wa wi x M) fun M => .nx σ M
      | _ => .bad) :=
  ps_of (ps_asg he (pg_sub ho hi (set_ok (fa := fa) hp hwd hu) has) hsw hw rfl) fun D σ H ⟨ρ, σ', M, sl, rp, q⟩ => by
    refine ⟨ρ, σ', M, sl, rp, (PostS.out q).mono fun v H1 ⟨w, ρ1, M1, t1, rp1, rl1, q1⟩ => ?_⟩
    cases w with
    | d x =>
      refine ⟨ρ1, σ', M1, sl.to t1, rp1, (PostS.out q1).mono fun o H2 ⟨wa, ρ2, M2, t2, rp2, rl2, q2⟩ => ?_⟩
      refine ⟨ρ2, σ', M2, (sl.to t1).to t2, rp2, (PostS.out q2).mono fun i H3 ⟨wi, ρ3, M3, t3, rp3, rl3, q3⟩ => ?_⟩
      obtain ⟨M4, e4, q3⟩ := PostS.of q3
      exact ⟨ρ3, wa, wi, x, M3, M4, rp3, rl2.to t3, rl3, Rl.keep (t2.trans t3).keep rl1, e4, fun H' t4 r4 => q3 ρ3 H' _ t4 r4 (((sl.to t1).to t2).to (t3.trans t4))⟩
    | _ => exact q1.elim
theorem get_ok : PGet X (fun o i H Q => ∃ ρ w wi M z, Rep X.K fa ρ H M ∧ RlW X.K fa ρ H w o ∧ RlW X.K fa ρ H wi i ∧ getIx w wi M = some z ∧ Q (.int z) H) := by
  intro pins s σ H o i ov iv Q I ro ri ⟨ρ, w, wi, M, z, rp, rw', ri', hg, q⟩
  unfold getIx at hg
  split at hg
  · rename_i l k
    split at hg
    · rename_i hk
      split at hg
      · rename_i ds hM
        split at hg
        · rename_i y hy
          split at hg
          · rename_i hlen
            simp only [Option.some.injEq] at hg; subst hg
            obtain ⟨as, g1, a, vs, rfl, g2, g3⟩ := rp.obj l _ hM
            have eo := rw'.2 a [] g1
            subst eo
            have ei : i = .int k := ri'
            subst ei
            cases ro
            obtain ⟨t, rfl⟩ := ri
            obtain ⟨v, e1, r1⟩ := g3.get hy
            have ev : v = .int y := by simpa [Rl] using r1
            subst ev
            obtain ⟨its, rv, pl, hz⟩ := I.list (.of g2)
            obtain ⟨u, e2, r2⟩ := rv.get e1
            have hl := rv.length
            have hlt : k.toNat < vs.length := (List.getElem?_eq_some_iff.mp e1).1
            have h63 : vs.length ≤ line := by rw [← g3.length]; exact hlen
            have hl2 : line = 1000000 := rfl
            have h6 : ((2 : Int) ^ 63) = 9223372036854775808 := by decide
            refine wpAny_getItem_list pl.isList hk (by rw [h6]; omega) (by simpa using e2) ?_
            exact ⟨.int y, H, I, r2, q⟩
          · cases hg
        · cases hg
      · cases hg
    · cases hg
  · cases hg
theorem s_augix {o : Op} {po : Operator} (hp : fa.p = X.prog) (hwd : fa.w = X.w) (hu : X.A.units + 65 < cLine) (ho : augOp o = some po) (ha : PE X a (rdE X.K fa XE ea)) (hb : PE X b (rdE X.K fa XE eb)) (he : PE X e (rdE X.K fa XE ee))
    (hst : ∀ ov iv new, augStore b ov iv new = (do holding [new, ov, iv] (setItem ov iv new); release [new, ov, iv] []; pure .next)) :
    PS X (.AugAssign (.Subscript a b p2) po e pos) (rdS X.K fa XE fun σ M => (ea σ M).out fun wa M => (eb σ M).out fun wi M => ofOut (getIx wa wi M) fun old => (ee σ M).out fun w M => match w with
      | .d (.int y) => ofOut (augI o old y) fun z => ofOut (setW wa wi (.int z) M) fun M => .nx σ M
      | _ => .bad) :=
  ps_of (ps_augS ha hb (get_ok (fa := fa)) he (ip_ok ho) (set_ok (fa := fa) hp hwd hu) hst) fun D σ H ⟨ρ, σ', M, sl, rp, q⟩ => by
    refine ⟨ρ, σ', M, sl, rp, (PostS.out q).mono fun o H1 ⟨wa, ρ1, M1, t1, rp1, rl1, q1⟩ => ?_⟩
    refine ⟨ρ1, σ', M1, sl.to t1, rp1, (PostS.out q1).mono fun i H2 ⟨wi, ρ2, M2, t2, rp2, rl2, q2⟩ => ?_⟩
    obtain ⟨old, e1, q2⟩ := PostS.of q2
    refine ⟨ρ2, wa, wi, M2, old, rp2, rl1.to t2, rl2, e1, ρ2, σ', M2, (sl.to t1).to t2, rp2, (PostS.out q2).mono fun v H3 ⟨w, ρ3, M3, t3, rp3, rl3, q3⟩ => ?_⟩
    cases w with
    | d x => cases x with
      | int y =>
        obtain ⟨z, e2, q3⟩ := PostS.of q3
        obtain ⟨M4, e3, q3⟩ := PostS.of q3
        refine ⟨old, y, z, rfl, rl3, e2, ρ3, wa, wi, .int z, M3, M4, rp3, (rl1.to t2).to t3, rl2.to t3, by simp [Rl], e3, fun H' t4 r4 => q3 ρ3 H' _ t4 r4 (((sl.to t1).to t2).to (t3.trans t4))⟩
      | _ => exact q3.elim
    | _ => exact q3.elim

/-! ### if, while, for -/
theorem s_if (hc : PT X c (rdT X.K fa XE ec)) (ha : PSs X body (rdS X.K fa XE e1)) (hb : PSs X rest (rdS X.K fa XE e2)) : PS X (.If c body rest pos) (rdS X.K fa XE fun σ M => (ec σ M).out fun w M => match w with
      | .d (.bl true) => e1 σ M
      | .d (.bl false) => e2 σ M
      | _ => .bad) :=
  ps_of (ps_if hc ha hb) fun D σ H ⟨ρ, σ', M, sl, rp, q⟩ => by
    refine ⟨ρ, σ', M, sl, rp, ?_⟩
    dsimp only at q
    revert q
    cases ec σ' M with
    | ok w M1 =>
      cases w with
      | d x => cases x with
        | bl k =>
          cases k with
          | true => exact fun q ρ1 H1 b t1 rp1 e => by subst e; exact iteT ⟨ρ1, σ', M1, sl.to t1, rp1, PostS.from q t1⟩
          | false => exact fun q ρ1 H1 b t1 rp1 e => by subst e; exact iteF ⟨ρ1, σ', M1, sl.to t1, rp1, PostS.from q t1⟩
        | _ => exact fun q => q.elim
      | _ => exact fun q => q.elim
    | exc c M1 => exact fun q => q
    | bad => exact fun q => q
theorem s_while (hp : PassesOwn (model X.prog X.w) X.A X.env X.xe) (hc : PT X c (rdT X.K fa XE ec)) (hb : PSs X body (rdS X.K fa XE e1)) (n : Nat) : PS X (.While c body [] pos) (rdS X.K fa XE fun σ M => whileLoop ec e1 n σ M) :=
  ps_of (ps_while hp hc hb) fun D σ H h => by
    refine ⟨fun m σV H => rdS X.K fa XE (fun σ M => whileLoop ec e1 m σ M) D σV H, ⟨n, h⟩, fun m σV H hW => ?_⟩
    obtain ⟨ρ, σ', M, sl, rp, q⟩ := hW
    refine ⟨ρ, σ', M, sl, rp, ?_⟩
    cases m with
    | zero => exact q.elim
    | succ m =>
      simp only [whileLoop] at q
      revert q
      cases ec σ' M with
      | ok w M1 =>
        cases w with
        | d x => cases x with
          | bl k =>
            cases k with
            | true =>
              intro q ρ1 H1 b t1 rp1 e
              subst e
              refine iteT ⟨fun σV H => rdS X.K fa XE (fun σ M => whileLoop ec e1 m σ M) D σV H, fun σV2 H2 h2 => ⟨m, Nat.lt_succ_self m, h2⟩, ρ1, σ', M1, sl.to t1, rp1, ?_⟩
              have q1 := PostS.seq (PostS.from (o := (e1 σ' M1).andThen fun σ2 M2 => whileLoop ec e1 m σ2 M2) q t1)
              revert q1
              cases e1 σ' M1 with
              | nx σ2 M2 => exact fun q1 => q1
              | ret w M2 => exact fun q1 => q1
              | exc c M2 => exact fun q1 => q1
              | bad => exact fun q1 => q1
            | false =>
              intro q ρ1 H1 b t1 rp1 e
              subst e
              exact iteF (q ρ1 H1 _ t1 rp1 (sl.to t1))
          | _ => exact fun q => q.elim
        | _ => exact fun q => q.elim
      | exc c M1 => exact fun q => q
      | bad => exact fun q => q
def evFor (t : Tg) (evI : Sl → Mem → R (List D × (Mem → Bool))) (e1 : Sl → Mem → Out) : Sl → Mem → Out := fun σ M => (evI σ M).out fun p M => forLoop p.2 (fun x σ => bindT t x σ) e1 p.1 σ M
theorem s_for {t : Tg} {evI : Sl → Mem → R (List D × (Mem → Bool))} (hp : PassesOwn (model X.prog X.w) X.A X.env X.xe) (hc : X.calm = true) (hi : PI X tg iter (rdI X.K fa XE evI)) (hg : PG X tg (rdG X.K fa t)) (hb : PSs X body (rdS X.K fa XE e1)) (hs : ∀ x, foldedSetIterable iter X.env x = pure x) :
    PS X (.For tg iter body [] pos) (rdS X.K fa XE (evFor t evI e1)) :=
  ps_of (ps_for hp hc hi hg hb hs) fun D σ H ⟨ρ, σ', M, sl, rp, q⟩ => by
    refine ⟨ρ, σ', M, sl, rp, (PostS.out q).mono fun J H1 ⟨p, ρ1, M1, t1, rp1, wk, q1⟩ => ?_⟩
    refine ⟨fun i m σV H => i ≤ p.1.length ∧ m = p.1.length - i ∧ ∃ ρ2 σ2 M2, Td ρ1 H1 ρ2 H ∧ Sls X.K fa ρ2 H σ2 σV ∧ Rep X.K fa ρ2 H M2 ∧ PostS X.K fa XE ρ2 H (forLoop p.2 (fun x σ => bindT t x σ) e1 (p.1.drop i) σ2 M2) D,
      ⟨p.1.length, Nat.zero_le _, by simp, ρ1, σ', M1, (To.refl _ _).td, sl.to t1, rp1, by simpa using q1⟩, ?_⟩
    rintro i m σV H2 ⟨hi, rfl, ρ2, σ2, M2, td, sl2, rp2, q2⟩
    by_cases hlt : i < p.1.length
    · have hx : p.1[i]? = some p.1[i] := List.getElem?_eq_getElem hlt
      rw [List.drop_eq_getElem_cons hlt] at q2
      simp only [forLoop] at q2
      split at q2
      case isFalse => exact q2.elim
      rename_i hchk
      obtain ⟨σ3, e3, q2⟩ := PostS.of q2
      obtain ⟨go, yld⟩ := wk.go ρ2 H2 M2 td rp2 hchk i p.1[i] hx
      refine .inr ⟨go, fun σV H => ∃ ρ2 σ2 M2, Td ρ1 H1 ρ2 H ∧ Sls X.K fa ρ2 H σ2 σV ∧ Rep X.K fa ρ2 H M2 ∧ PostS X.K fa XE ρ2 H (forLoop p.2 (fun x σ => bindT t x σ) e1 (p.1.drop (i + 1)) σ2 M2) D,
        fun σV' H' hn => ⟨p.1.length - (i + 1), by omega, hlt, rfl, hn⟩, fun v H3 hy => ?_⟩
      obtain ⟨sm, rx⟩ := yld v H3 hy
      have t3 : To ρ2 H2 ρ2 H3 := .same rp2 sm
      refine ⟨ρ2, p.1[i], σ2, σ3, sl2.to t3, rx, e3, fun σV3 s3 _ _ => ⟨ρ2, σ3, M2, s3, rp2.same sm, ?_⟩⟩
      have q3 := PostS.from q2 t3
      revert q3
      cases e1 σ3 M2 with
      | nx σ4 M4 => exact fun q3 ρ4 H4 σV4 t4 rp4 sl4 => ⟨ρ4, σ4, M4, td.trans (t3.trans t4).td, sl4, rp4, PostS.from (o := forLoop p.2 (fun x σ => bindT t x σ) e1 (p.1.drop (i + 1)) σ4 M4) q3 t4⟩
      | ret w M4 => exact fun q3 => q3
      | exc c M4 => exact fun q3 => q3
      | bad => exact fun q3 => q3
    · have ei : i = p.1.length := by omega
      subst ei
      rw [List.drop_length] at q2
      simp only [forLoop] at q2
      split at q2
      · rename_i hchk
        exact .inl ⟨wk.stop ρ2 H2 M2 td rp2 hchk, q2.nx rp2 sl2⟩
      · exact q2.elim

/-! ### a thing of the memory becomes a value -/
theorem Rep.freezeG {K : PySem.W.Frag} {ρ : Rho} {H : Hp} {M : Mem} (r : Rep K fa ρ H M) {l : Nat} {as : List Addr} (h1 : ρ.ls[l]? = some as) :
    ∃ ρ', To ρ H ρ' H ∧ Rep K fa ρ' H (M.set l .dead) ∧ (∀ a ∈ as, ¬ mu ρ' a) ∧ Kp (mu ρ) (mu ρ') H H := by
  have hl : l < ρ.ls.length := (List.getElem?_eq_some_iff.mp h1).1
  have hin : ∀ b, b ∈ (ρ.ls.set l []).flatten → b ∈ ρ.ls.flatten := by
    intro b hb
    obtain ⟨bs, k1, k2⟩ := List.mem_flatten.mp hb
    rcases List.mem_or_eq_of_mem_set k1 with k | k
    · exact List.mem_flatten.mpr ⟨bs, k, k2⟩
    · subst k; simp at k2
  have sub : (ρ.ls.set l []).flatten.Sublist ρ.ls.flatten := by
    have : ∀ (ls : List (List Addr)) (l : Nat), (ls.set l []).flatten.Sublist ls.flatten := by
      intro ls
      induction ls with
      | nil => intro l; simp
      | cons x ls ih =>
        intro l
        cases l with
        | zero => simp
        | succ l => simpa using (List.Sublist.refl x).append (ih l)
    exact this _ _
  have na : ∀ a ∈ as, a ∉ (ρ.ls.set l []).flatten := fun a ha hb => by
    obtain ⟨bs, k1, k2⟩ := List.mem_flatten.mp hb
    obtain ⟨j, hj, rfl⟩ := List.getElem_of_mem k1
    rw [List.getElem_set] at k2
    split at k2
    · simp at k2
    · rename_i hne
      have hj' : j < ρ.ls.length := by simpa using hj
      have := flat_one (List.nodup_append.mp r.nd).1 h1 (List.getElem?_eq_getElem hj') ha k2
      exact hne this
  have hmu : ∀ b, mu ⟨ρ.ls.set l [], ρ.ex⟩ b → mu ρ b := fun b hb => hb.elim (fun h => .inl (hin b h)) .inr
  have nm : ∀ a ∈ as, ¬ mu ⟨ρ.ls.set l [], ρ.ex⟩ a := by
    rintro a ha (h | h)
    · exact na a ha h
    · exact (List.nodup_append.mp r.nd).2.2 a (List.mem_flatten.mpr ⟨as, List.mem_of_getElem? h1, ha⟩) a h rfl
  have k : Kp (mu ρ) (mu ⟨ρ.ls.set l [], ρ.ex⟩) H H := fun b u h n => ⟨h, fun z => n (hmu b z)⟩
  refine ⟨⟨ρ.ls.set l [], ρ.ex⟩, ⟨k, by simp, fun j b bs hj ej => ?_, rfl, fun _ _ => rfl⟩, ⟨by simp [r.len], ?_, r.exd, fun j ob ej => ?_⟩, ?_⟩
  · by_cases e1 : l = j
    · subst e1
      have : (ρ.ls.set l [])[l]? = some [] := List.getElem?_set_self hl
      rw [this] at ej; cases ej
    · have : (ρ.ls.set l [])[j]? = ρ.ls[j]? := List.getElem?_set_ne e1
      rw [this] at ej
      exact ⟨bs, ej, List.prefix_rfl⟩
  · exact List.Nodup.sublist (sub.append (List.Sublist.refl ρ.ex)) r.nd
  · by_cases e1 : l = j
    · subst e1
      have hM : l < M.length := r.len ▸ hl
      rw [List.getElem?_set_self hM] at ej
      simp only [Option.some.injEq] at ej; subst ej
      exact ⟨[], List.getElem?_set_self hl, rfl⟩
    · rw [List.getElem?_set_ne e1] at ej
      obtain ⟨bs, g1, g2⟩ := r.obj j ob ej
      exact ⟨bs, (List.getElem?_set_ne e1).trans g1, g2.keep k fun _ _ => rfl⟩
  · exact ⟨nm, k⟩
theorem Rep.freezeO {K : PySem.W.Frag} {ρ : Rho} {H : Hp} {M : Mem} (r : Rep K fa ρ H M) {l : Nat} {a : Addr} (h1 : ρ.ls[l]? = some [a]) :
    ∃ ρ', To ρ H ρ' H ∧ Rep K fa ρ' H (M.set l .dead) ∧ ¬ mu ρ' a ∧ Kp (mu ρ) (mu ρ') H H := by
  obtain ⟨ρ', t, rp, nm, k⟩ := r.freezeG h1
  exact ⟨ρ', t, rp, nm a (by simp), k⟩
theorem inn_rls {K : PySem.W.Frag} {m m' : Addr → Prop} {H : Hp} (k : Kp m m' H H) : ∀ {dss : List (List D)} {bs : List Addr}, (∀ b ∈ bs, ¬ m' b) → Inn K fa m H dss bs → Rls K fa m' H (dss.map .lst) (bs.map .ref)
  | [], bs, _, h => by rw [show bs = [] from h]; simp [Rls]
  | ds :: dss, bs, nm, h => by
    obtain ⟨b, r, vs, rfl, h1, h2, h3⟩ := h
    simp only [List.map_cons]
    refine .cons ?_ (inn_rls k (fun c hc => nm c (by simp [hc])) h3)
    simp only [Rl]
    exact ⟨b, vs, rfl, nm b (by simp), h1, h2.keep k⟩
theorem Rep.freezeL {K : PySem.W.Frag} {ρ : Rho} {H : Hp} {M : Mem} (r : Rep K fa ρ H M) {l : Nat} {dss : List (List D)} (e : M[l]? = some (.lsts dss)) {v : V} (rl : RlW K fa ρ H (.r l) v) :
    ∃ ρ', To ρ H ρ' H ∧ Rep K fa ρ' H (M.set l .dead) ∧ Rl K fa (mu ρ') H (.lst (dss.map .lst)) v := by
  obtain ⟨as, h1, a, bs, rfl, h2, h3⟩ := r.obj l _ e
  obtain ⟨ρ', t, rp, nm, k⟩ := r.freezeG h1
  refine ⟨ρ', t, rp, ?_⟩
  simp only [Rl]
  exact ⟨a, bs.map .ref, rl.2 a bs h1, nm a (by simp), h2, inn_rls k (fun b hb => nm b (by simp [hb])) h3⟩
theorem Rep.freeze {K : PySem.W.Frag} {ρ : Rho} {H : Hp} {M : Mem} (r : Rep K fa ρ H M) {l : Nat} {ds : List D} (e : M[l]? = some (.lst ds)) {v : V} (rl : RlW K fa ρ H (.r l) v) :
    ∃ ρ', To ρ H ρ' H ∧ Rep K fa ρ' H (M.set l .dead) ∧ Rl K fa (mu ρ') H (.lst ds) v := by
  obtain ⟨as, h1, a, vs, rfl, h2, h3⟩ := r.obj l _ e
  obtain ⟨ρ', t, rp, nm, k⟩ := r.freezeO h1
  refine ⟨ρ', t, rp, ?_⟩
  simp only [Rl]
  exact ⟨a, vs, rl.2 a [] h1, nm, h2, h3.keep k⟩
theorem Rep.freezeD {K : PySem.W.Frag} {ρ : Rho} {H : Hp} {M : Mem} (r : Rep K fa ρ H M) {l : Nat} {kvs : List (D × D)} (e : M[l]? = some (.dct kvs)) {v : V} (rl : RlW K fa ρ H (.r l) v) :
    ∃ ρ', To ρ H ρ' H ∧ Rep K fa ρ' H (M.set l .dead) ∧ Rl K fa (mu ρ') H (.dct (kvs.map (·.1)) (kvs.map (·.2))) v := by
  obtain ⟨as, h1, a, o, xs, kv, vv, rfl, h2, h3, h4, h5⟩ := r.obj l _ e
  obtain ⟨ρ', t, rp, nm, k⟩ := r.freezeO h1
  refine ⟨ρ', t, rp, ?_⟩
  simp only [Rl]
  exact ⟨a, o, xs, kv, vv, rl.2 a [] h1, nm, h2, h3.keep k, h4.keep k, h5⟩
theorem freeze_ok {K : PySem.W.Frag} {ρ : Rho} {H : Hp} {M M' : Mem} {w : W} {x : D} {v : V} (r : Rep K fa ρ H M) (rl : RlW K fa ρ H w v) (e : freeze w M = some (x, M')) : ∃ ρ', To ρ H ρ' H ∧ Rep K fa ρ' H M' ∧ Rl K fa (mu ρ') H x v := by
  cases w with
  | d y =>
    simp only [freeze, Option.some.injEq, Prod.mk.injEq] at e
    obtain ⟨rfl, rfl⟩ := e
    exact ⟨ρ, .refl _ _, r, rl⟩
  | r l =>
    simp only [freeze] at e
    cases hM : M[l]? with
    | none => rw [hM] at e; cases e
    | some o =>
      rw [hM] at e
      cases o with
      | lst ds =>
        simp only [Option.some.injEq, Prod.mk.injEq] at e
        obtain ⟨rfl, rfl⟩ := e
        exact r.freeze hM rl
      | dct kvs =>
        simp only [Option.some.injEq, Prod.mk.injEq] at e
        obtain ⟨rfl, rfl⟩ := e
        exact r.freezeD hM rl
      | lsts dss =>
        simp only [Option.some.injEq, Prod.mk.injEq] at e
        obtain ⟨rfl, rfl⟩ := e
        exact r.freezeL hM rl
      | ins0 => simp at e
      | ins1 _ => simp at e
      | ins _ _ => simp at e
      | dead => simp at e
  | rf l f => simp [freeze] at e
theorem s_retF {i : Nat} {x : Str} (h : PE X (.Name x p2) (tVar i)) : PS X (.Return (some (.Name x p2)) pos) (rdS X.K fa XE fun σ M => match σ[i]? with
    | some (some w) => ofOut (freeze w M) fun q => .ret (.d q.1) q.2
    | _ => .bad) :=
  ps_of (ps_ret h) fun D σ H ⟨ρ, σ', M, sl, rp, q⟩ => by
    simp only at q
    split at q
    · rename_i w hw
      obtain ⟨v, e1, r1⟩ := sl.2 i w hw
      obtain ⟨⟨y, M'⟩, e2, q⟩ := PostS.of q
      obtain ⟨ρ', t1, rp1, rl1⟩ := freeze_ok rp r1 e2
      exact ⟨v, e1, q ρ' H v t1 rp1 rl1⟩
    · exact q.elim
theorem s_fz {i : Nat} (h : PSs X rest (rdS X.K fa XE e2)) : PSs X rest (rdS X.K fa XE fun σ M => (match σ[i]? with
    | some (some w) => ofOut (freeze w M) fun q => .nx (σ.put i (.d q.1)) q.2
    | _ => .bad : Out).andThen fun σ M => e2 σ M) :=
  pss_of h fun D σ H ⟨ρ, σ', M, sl, rp, q⟩ => by
    simp only at q
    split at q
    · rename_i w hw
      obtain ⟨v, e1, r1⟩ := sl.2 i w hw
      cases hf : freeze w M with
      | none => rw [hf] at q; exact q.elim
      | some p =>
        rw [hf] at q
        obtain ⟨y, M'⟩ := p
        obtain ⟨ρ', t1, rp1, rl1⟩ := freeze_ok rp r1 hf
        have q1 : PostS X.K fa XE ρ H (e2 (σ'.put i (.d y)) M') D := q
        refine ⟨ρ', σ'.put i (.d y), M', ?_, rp1, q1.from t1⟩
        have := (sl.to t1).put (i := i) (w := .d y) (v := v) rl1
        have es : σ.set i (some v) = σ := by
          apply List.ext_getElem?
          intro j
          by_cases hj : i = j
          · subst hj
            have hl : i < σ.length := (List.getElem?_eq_some_iff.mp e1).1
            rw [List.getElem?_set_self hl, e1]
          · rw [List.getElem?_set_ne hj]
        rwa [es] at this
    · exact q.elim
end
end G

set_option Elab.async false
set_option linter.all false
set_option autoImplicit false
set_option maxRecDepth 100000
set_option maxHeartbeats 4000000
/-! Soundness, part N: new dicts, what is walked by pairs. -/
namespace G
open PySem PySem.Spec PyProof.Rows L2

section
variable {K : PySem.W.Frag} {fa : FW}
/-- a new thing of the memory -/
theorem to_lay {ρ : Rho} {H : Hp} {M : Mem} {p : Addr} {o : O} {ho : HO} (rp : Rep K fa ρ H M) (np : H p = none) (ob : Ob K fa (mu (ρ.own p)) (upd H p ho) o [p]) :
    To ρ H ⟨ρ.ls ++ [[p]], ρ.ex⟩ (upd H p ho) ∧ Rep K fa ⟨ρ.ls ++ [[p]], ρ.ex⟩ (upd H p ho) (M ++ [o]) ∧ RlW K fa ⟨ρ.ls ++ [[p]], ρ.ex⟩ (upd H p ho) (.r M.length) (.ref p) := by
  have hp : ¬ mu ρ p := fun h => rp.dom h np
  have hlen : ρ.ls.length = M.length := rp.len
  refine ⟨⟨fun a u ha n => ⟨same_upd np a u ha, fun h2 => ?_⟩, by simp, fun l a as hl e => ?_, rfl, fun a ha => upd_ne fun e => ?_⟩, (rp.own np).layO ob, ⟨by simp [hlen], fun a as e => ?_⟩⟩
  · rcases h2 with h2 | h2
    · simp only [List.flatten_append, List.mem_append, List.flatten_cons, List.flatten_nil, List.append_nil, List.mem_singleton] at h2
      rcases h2 with h2 | h2
      · exact n (.inl h2)
      · rw [h2, np] at ha; cases ha
    · exact n (.inr h2)
  · have e' : (ρ.ls ++ [[p]])[l]? = some (a :: as) := e
    rw [List.getElem?_append_left hl] at e'
    exact ⟨as, e', List.prefix_rfl⟩
  · exact hp (.inr (e ▸ ha))
  · have e' : (ρ.ls ++ [[p]])[M.length]? = some (a :: as) := e
    rw [← hlen, List.getElem?_append_right (Nat.le_refl _), Nat.sub_self] at e'
    simp at e'
    rw [e'.1]
end
section
variable {X : Cx} {fa : FW} {XE : XP} {a b c e tg : Expr} {es : List Expr} {pos : Pos} {ea eb ec : Sl → Mem → R W} {evs : Sl → Mem → R (List W)}
/-! ### {} -/
def emptyD : Obj := { cls := .type "dict", data := .dict #[] }
theorem r_dnew : PE X (.Dict [] [] pos) (rdE X.K fa XE fun _ M => .ok (.r M.length) (M ++ [.dct []])) := ⟨fun pins s σ H Q I ⟨ρ, σ', M, sl, rp, q⟩ => by
  have np : H s.heap.objs.size = none := I.hok.fresh (Nat.le_refl _)
  have g : (s.heap.push emptyD).get? s.heap.objs.size = some emptyD := Heap.get?_push_size _ rfl
  obtain ⟨t1, r1, w1⟩ := to_lay (o := .dct []) (ho := oHO s.heap.objs.size emptyD) rp np ⟨s.heap.objs.size, emptyD, [], [], [], rfl, upd_same, by simp [Rls], by simp [Rls], by
    refine ⟨?_, ⟨rfl, rfl, rfl⟩, ⟨#[], 0, rfl, rfl⟩, by simp, rfl, rfl, .nil, by simp, by simp⟩
    exact beq_eq_false_iff_ne.mpr (Nat.ne_of_gt I.big)⟩
  exact wpAny_Dict_empty ⟨.ref s.heap.objs.size, _, I.laid (a := s.heap.objs.size) (o := oHO s.heap.objs.size emptyD) (t' := s.toks) (fun _ _ q => Heap.get?_push_of_some _ q) (Nat.le_refl _) (oHO_ok g), rfl, q _ _ _ t1 r1 w1⟩⟩
/-! ### range(a, b) -/
def evRange2 (ea eb : Sl → Mem → R W) : Sl → Mem → R (List D × (Mem → Bool)) := fun σ M => (ea σ M).bind fun w M => (eb σ M).bind fun w' M => match w, w' with
    | .d (.int m), .d (.int n) => if -1000000 ≤ m ∧ m ≤ 1000000 ∧ -1000000 ≤ n ∧ n ≤ 1000000 then .ok ((List.range (n - m).toNat).map (fun (i : Nat) => D.int (m + (i : Int))), fun _ => true) M else .bad
    | _, _ => .bad
theorem wk_range2 {ρ0 : Rho} {H0 : Hp} {m : Int} {n : Nat} {chk : Mem → Bool} : Wk X.K fa ρ0 H0 ((List.range n).map (fun (i : Nat) => D.int (m + (i : Int))), chk) (Itr m n) where
  go := fun ρ H M t rp c i x e => by
    rw [List.getElem?_map] at e
    by_cases h : i < n
    · rw [List.getElem?_range h] at e
      simp only [Option.map_some, Option.some.injEq] at e
      subst e
      refine ⟨h, fun u H' hy => ?_⟩
      obtain ⟨rfl, rfl⟩ := hy
      exact ⟨.refl _, by simp [Rl]⟩
    · rw [List.getElem?_eq_none (by simp; omega)] at e; simp at e
  stop := fun ρ H M t rp c => by simp [Itr]
theorem r_range2 {p : Pos} (hg : Gl X "range") (hm : X.mg "range" = none) (ha : PE X a (rdE X.K fa XE ea)) (hb : PE X b (rdE X.K fa XE eb)) (hs : starEach [a, b] X.env = (false, eval a X.env) :: starEach [b] X.env) (hs2 : starEach [b] X.env = (false, eval b X.env) :: starEach [] X.env) :
    PI X tg (.Call (.Name "range" p) [a, b] [] pos) (rdI X.K fa XE (evRange2 ea eb)) :=
  pi_of (pi_range2 hg hm (pa_cons ha (pa_cons hb pa_nil hs2) hs) (by rw [hs, hs2]; rfl) hs2) fun σ H Q ⟨ρ, σ', M, sl, rp, q⟩ => by
    refine ⟨ρ, σ', M, sl, rp, (Post.bind q).mono fun v H1 ⟨w, ρ1, M1, t1, rp1, rl1, q1⟩ => ?_⟩
    refine ⟨ρ1, σ', M1, sl.to t1, rp1, (Post.bind q1).mono fun u H2 ⟨w', ρ2, M2, t2, rp2, rl2, q2⟩ => ?_⟩
    cases w with
    | d x =>
      cases w' with
      | d y =>
        cases x with
        | int m => cases y with
          | int n =>
            simp only at q2
            split at q2
            · rename_i hl
              exact ⟨m, n, by rw [show v = .int m from rl1, show u = .int n from rl2], ⟨by omega, by omega, by omega, by omega⟩, q2.ok rp2 wk_range2⟩
            · exact q2.elim
          | _ => exact q2.elim
        | _ => exact q2.elim
      | _ => cases x <;> exact q2.elim
    | _ => exact q2.elim

/-! ### sources of pairs: a list or a tuple -/
def Sq (b : Bool) (K : PySem.W.Frag) (H : Hp) (a : Addr) (xs : List V) : Prop := if b then SqL K H a xs else SqT K H a xs
def Src (b : Bool) (h : Heap) (a : Addr) (its : Array Value) : Prop := if b then h.IsList a its else h.IsTuple a its
def ItOf (b : Bool) (h : Heap) (it a : Addr) (i : Nat) : Prop := if b then h.IsListIter it a i else h.IsTupleIter it a i
theorem Sq.src {pins : List (Addr × Obj)} {σ : L2.St} {H : Hp} {s : Shared} {b : Bool} {p : Addr} {xs : List V} (I : Inv X pins σ H s) (h : Sq b X.K H p xs) : ∃ its : List Value, Vals xs its ∧ Src b s.heap p its.toArray ∧ p < s.heap.objs.size := by
  cases b with
  | true => obtain ⟨its, rv, pl, _⟩ := I.list h; exact ⟨its, rv, pl.isList, pl.lt⟩
  | false =>
    obtain ⟨its, rv, pl, _⟩ := I.tuple h
    obtain ⟨o, ho, _⟩ := id pl
    exact ⟨its, rv, pl, Heap.lt_size ho⟩
theorem Sq.inj {pins : List (Addr × Obj)} {σ : L2.St} {H : Hp} {s : Shared} {b : Bool} {p : Addr} {xs ys : List V} (I : Inv X pins σ H s) (h : Sq b X.K H p xs) (g : Sq b X.K H p ys) : xs = ys := by
  cases b with
  | true => exact I.list_inj h g
  | false => exact I.tuple_inj h g
theorem ItOf.obj {b : Bool} {h : Heap} {it p : Addr} {i : Nat} (x : ItOf b h it p i) : ∃ o, h.get? it = some o ∧ ∀ v, o.data ≠ .cell v := by
  cases b with
  | true => obtain ⟨o, e, _, d⟩ := x; exact ⟨o, e, fun v q => by rw [d] at q; cases q⟩
  | false => obtain ⟨o, e, _, d⟩ := x; exact ⟨o, e, fun v q => by rw [d] at q; cases q⟩
theorem ItOf.keep {b : Bool} {h h' : Heap} {it p : Addr} {i : Nat} (x : ItOf b h it p i) (k : ∀ o, h.get? it = some o → h'.get? it = some o) : ItOf b h' it p i := by
  cases b with
  | true => exact Heap.IsListIter.at x k
  | false => exact Heap.IsTupleIter.at x k
theorem drawsOf {P : Program} {w : World} {A : Around} (hh : A.handled = none) (b : Bool) (it p : Addr) (hne : p ≠ it) (its : Array Value) :
    Draws P w A it [it, p] its.size (fun i v => its[i]? = some v) (fun i h => ItOf b h it p i ∧ Src b h p its) := by
  cases b with
  | true => exact Draws.list hh it p hne its
  | false => exact Draws.tuple hh it p hne its
def itObj (b : Bool) (p : Addr) : Obj := { cls := .type (if b then "list_iterator" else "tuple_iterator"), data := .fields #[.ref p, .int 0 0] }
theorem beginsOf (b : Bool) (p : Addr) (its : Array Value) : Begins (.ref p) (itObj b p) (fun h => Src b h p its) := by
  cases b with
  | true => exact begins_list p its
  | false => exact begins_tuple p its
theorem itOf_new {b : Bool} {h : Heap} {it p : Addr} (e : h.get? it = some (itObj b p)) : ItOf b h it p 0 := by
  cases b with
  | true => exact ⟨_, e, rfl, rfl⟩
  | false => exact ⟨_, e, rfl, rfl⟩
end
end G

set_option Elab.async false
set_option linter.all false
set_option autoImplicit false
set_option maxRecDepth 100000
set_option maxHeartbeats 4000000
/-! Soundness, part O: zip, enumerate, items. -/
namespace G
open PySem PySem.Spec PyProof.Rows L2

/-- pairs of two sources -/
def ItZ (K : PySem.W.Frag) (b1 b2 : Bool) (p1 p2 : Addr) : L2.It :=
  ⟨fun i H => ∃ (xs ys : List V) (x y : V), Sq b1 K H p1 xs ∧ Sq b2 K H p2 ys ∧ xs[i]? = some x ∧ ys[i]? = some y,
   fun i H v H' => ∃ T x y, v = .ref T ∧ H T = none ∧ H' = upd H T (.tup [x, y]) ∧ (∀ xs, Sq b1 K H p1 xs → xs[i]? = some x) ∧ (∀ ys, Sq b2 K H p2 ys → ys[i]? = some y),
   fun i H => ∃ (xs ys : List V), Sq b1 K H p1 xs ∧ Sq b2 K H p2 ys ∧ i ≤ xs.length ∧ i ≤ ys.length ∧ (i = xs.length ∨ i = ys.length)⟩
theorem turnZ {P : Program} {w : World} {K : PySem.W.Frag} {elts : List Expr} {kk : Nat} {tpos : Pos} {b1 b2 : Bool} {p1 p2 z TI TO i1 i2 : Addr} (S : ZipSep2 z TI TO i1 i2 [i1, p1] [i2, p2]) (n1 : p1 ≠ i1) (n2 : p2 ≠ i2) :
    Turn P w K (.Tuple elts kk tpos) (ItZ K b1 b2 p1 p2) [z, TI, TO, i1, i2] z (fun i h => IsZip h z TI TO .none ∧ IsTupOf2 h TI (.ref i1) (.ref i2) ∧ (∃ x y, IsTupOf2 h TO x y) ∧ ItOf b1 h i1 p1 i ∧ ItOf b2 h i2 p2 i) where
  mem := by simp
  obj := fun i h ⟨hz, hTI, ⟨x, y, hTO⟩, h1, h2⟩ c hc => by
    simp only [List.mem_cons, List.not_mem_nil, or_false] at hc
    rcases hc with rfl | rfl | rfl | rfl | rfl
    · exact ⟨_, hz, fun v q => nomatch q⟩
    · exact ⟨_, hTI, fun v q => nomatch q⟩
    · exact ⟨_, hTO, fun v q => nomatch q⟩
    · exact h1.obj
    · exact h2.obj
  keep := fun i h h' ⟨hz, hTI, ⟨x, y, hTO⟩, h1, h2⟩ k => ⟨k z (by simp) _ hz, k TI (by simp) _ hTI, ⟨x, y, k TO (by simp) _ hTO⟩, h1.keep fun o q => k i1 (by simp) o q, h2.keep fun o q => k i2 (by simp) o q⟩
  item := by
    intro X hP hw hK hc i pins s σ H E I hf ⟨hz, hTI, ⟨x0, y0, hTO⟩, h1, h2⟩ ⟨xs, ys, x, y, hqx, hqy, hx, hy⟩
    subst hP hw hK
    obtain ⟨its, rv, s1, _⟩ := hqx.src I
    obtain ⟨jts, rv2, s2, _⟩ := hqy.src I
    obtain ⟨u, hu, ru⟩ := rv.get hx
    obtain ⟨u', hu', ru'⟩ := rv2.get hy
    have hzl : z < s.heap.objs.size := Heap.lt_size hz
    have hh : X.A.in1.handled = none := I.ok.hd hc
    have l1 : i < its.toArray.size := by simpa using (List.getElem?_eq_some_iff.mp hu).1
    have l2 : i < jts.toArray.size := by simpa using (List.getElem?_eq_some_iff.mp hu').1
    refine wpAny_pyNext_zipD2_item S (drawsOf hh b1 i1 p1 n1 its.toArray) (drawsOf hh b2 i2 p2 n2 jts.toArray) hz hTI hTO ⟨h1, s1⟩ ⟨h2, s2⟩ l1 l2 fun x1 x2 h' tk e1 e2 z' TO' k1 k2 hT hsz hk => ?_
    have ex1 : x1 = u := by simp only [List.getElem?_toArray] at e1; rw [hu] at e1; exact (Option.some.inj e1).symm
    have ex2 : x2 = u' := by simp only [List.getElem?_toArray] at e2; rw [hu'] at e2; exact (Option.some.inj e2).symm
    subst ex1 ex2
    refine ⟨_, rfl, wpAny_letOwnedTupleGo_zip (s := { s with heap := h', toks := tk }) z' fun h'' z'' sb => ?_⟩
    have hT2 : h''.get? s.heap.objs.size = some { cls := .type "tuple", data := .seq #[x1, x2] } := (sb.2 _ (Nat.ne_of_gt hzl)).trans hT
    have new : ObjOk X.prog X.w (upd H s.heap.objs.size (.tup [x, y])) h'' s.heap.objs.size (.tup [x, y]) := ⟨(by show 2 ≤ sizeLine; decide), [x1, x2], .cons ru (.cons ru' .nil), ⟨_, hT2, rfl, _, rfl⟩⟩
    have I1 : Inv X pins σ (upd H s.heap.objs.size (.tup [x, y])) { s with heap := h'', toks := tk } := I.turnedNew (t' := tk) (ch := [z, TI, TO, i1, i2])
      (fun c o hb q => by
        simp only [List.mem_cons, List.not_mem_nil, or_false, not_or] at hb
        exact (sb.2 c hb.1).trans (hk c o hb.1 hb.2.2.1 hb.2.2.2.1 hb.2.2.2.2 q)) hf (Nat.le_refl _) new
    refine ⟨.ref s.heap.objs.size, _, I1, rfl, ⟨_, x, y, rfl, I.hok.fresh (Nat.le_refl _), rfl, fun l hl => by rw [Sq.inj I hl hqx]; exact hx, fun l hl => by rw [Sq.inj I hl hqy]; exact hy⟩, ⟨z'', ?_, ⟨x1, x2, ?_⟩, ?_, ?_⟩, fun c hcm => ?_⟩
    · exact (sb.2 _ S.TIz).trans (hk _ _ S.TIz S.TITO S.TIi1 S.TIi2 hTI)
    · exact (sb.2 _ S.TOz).trans TO'
    · exact k1.1.keep fun o q => (sb.2 _ S.zi1.symm).trans q
    · exact k2.1.keep fun o q => (sb.2 _ S.zi2.symm).trans q
    · have hlt : c < s.heap.objs.size := by
        simp only [List.mem_cons, List.not_mem_nil, or_false] at hcm
        rcases hcm with rfl | rfl | rfl | rfl | rfl
        · exact hzl
        · exact Heap.lt_size hTI
        · exact Heap.lt_size hTO
        · obtain ⟨_, e1, _⟩ := h1.obj; exact Heap.lt_size e1
        · obtain ⟨_, e1, _⟩ := h2.obj; exact Heap.lt_size e1
      rw [upd_ne (Nat.ne_of_lt hlt)]
      exact (hf c hcm).1
  done := by
    intro X hP hw hK hc i pins s σ H E I hf ⟨hz, hTI, ⟨x0, y0, hTO⟩, h1, h2⟩ ⟨xs, ys, hqx, hqy, le1, le2, hend⟩
    subst hP hw hK
    obtain ⟨its, rv, s1, _⟩ := hqx.src I
    obtain ⟨jts, rv2, s2, _⟩ := hqy.src I
    have hh : X.A.in1.handled = none := I.ok.hd hc
    have m1 : its.toArray.size = xs.length := by simp [rv.length]
    have m2 : jts.toArray.size = ys.length := by simp [rv2.length]
    exact wpAny_pyNext_zipD2_end S (drawsOf hh b1 i1 p1 n1 its.toArray) (drawsOf hh b2 i2 p2 n2 jts.toArray) hz hTI hTO ⟨h1, s1⟩ ⟨h2, s2⟩ (by rw [m1]; exact le1) (by rw [m2]; exact le2) (by rw [m1, m2]; exact hend)
      fun h' tk hk => ⟨rfl, I.turnedL (t' := tk) (ch := [z, TI, TO, i1, i2]) (fun c o hb q => by
        simp only [List.mem_cons, List.not_mem_nil, or_false, not_or] at hb
        exact hk c o hb.1 hb.2.2.1 hb.2.2.2.1 hb.2.2.2.2 q) hf⟩
  self := fun A i s Q E st h => wpAny_pyIter_zip st.1 h

section
variable {X : Cx} {fa : FW} {XE : XP} {a b c e tg : Expr} {es : List Expr} {pos : Pos} {ea eb ec : Sl → Mem → R W} {evs : Sl → Mem → R (List W)}
/-- what stands of a source while nobody changes it -/
theorem src_stay {ρ1 : Rho} {H1 : Hp} {M1 : Mem} {w : W} {v : V} {x : D} {xs : List D} (rp1 : Rep X.K fa ρ1 H1 M1) (rl1 : RlW X.K fa ρ1 H1 w v) (e1 : asD M1 w = some x) (e2 : sitems x = some xs) :
    ∃ bb p, v = .ref p ∧ ∀ ρ H M, Td ρ1 H1 ρ H → Rep X.K fa ρ H M → still w x M = true → ∃ vs, Sq bb X.K H p vs ∧ Rls X.K fa (mu ρ) H xs vs := by
  have vw := rl1.vw rp1 e1
  cases x with
  | tup ds =>
    simp only [sitems, Option.some.injEq] at e2; subst e2
    obtain ⟨p, vs, ey, n, h1, h2⟩ := vw_tup vw
    exact ⟨false, p, ey, fun ρ2 H2 M2 t2 _ _ => ⟨vs, .of (t2.keep p _ h1 n).1, h2.keep t2.keep⟩⟩
  | ktup ds =>
    simp only [sitems, Option.some.injEq] at e2; subst e2
    simp only [Vw, Rl] at vw
    obtain ⟨p, vs, ey, h1, h2⟩ := vw
    exact ⟨false, p, ey, fun ρ2 H2 M2 t2 _ _ => ⟨vs, h1 _, h2.keep t2.keep⟩⟩
  | lst ds =>
    simp only [sitems, Option.some.injEq] at e2; subst e2
    cases w with
    | d x0 =>
      simp only [asD, Option.some.injEq] at e1; subst e1
      have rl := rl1
      simp only [RlW, Rl] at rl
      obtain ⟨p, vs, ey, n, h1, h2⟩ := rl
      exact ⟨true, p, ey, fun ρ2 H2 M2 t2 _ _ => ⟨vs, .of (t2.keep p _ h1 n).1, h2.keep t2.keep⟩⟩
    | r l =>
      have hM : M1[l]? = some (.lst ds) := by
        simp only [asD] at e1
        cases q2 : M1[l]? with
        | none => rw [q2] at e1; simp at e1
        | some o => rw [q2] at e1; cases o <;> simp_all
      obtain ⟨as, g1, p, vs, rfl, g2, g3⟩ := rp1.obj l _ hM
      refine ⟨true, p, rl1.2 p [] g1, fun ρ2 H2 M2 t2 rp2 hc => ?_⟩
      have hM2 : M2[l]? = some (.lst ds) := by
        simp only [still, W.isD, Bool.false_or, asD] at hc
        cases q2 : M2[l]? with
        | none => rw [q2] at hc; simp at hc
        | some o =>
          rw [q2] at hc
          cases o with
          | lst ds2 => simp only at hc; have := D.same_eq hc; cases this; rfl
          | dct kvs => simp only at hc; have := D.same_eq hc; cases this
          | _ => simp at hc
      obtain ⟨as2, k1, p2, vs2, rfl, k2, k3⟩ := rp2.obj l _ hM2
      obtain ⟨as0, k4, _⟩ := t2.head l p2 [] rl1.1 k1
      rw [g1] at k4
      simp only [Option.some.injEq, List.cons.injEq] at k4
      obtain ⟨rfl, _⟩ := k4
      exact ⟨vs2, .of k2, k3⟩
    | rf l f =>
      have hM : getI M1 l f = some ds := by
        simp only [asD] at e1
        cases q2 : getI M1 l f with
        | none => rw [q2] at e1; cases e1
        | some d2 => rw [q2] at e1; simp at e1; subst e1; rfl
      obtain ⟨as, p, vs, g1, g2, g3, g4, _⟩ := rp1.changeI (ds' := []) hM
      have ey := rf_ref rl1 g1 g2
      refine ⟨true, p, ey, fun ρ2 H2 M2 t2 rp2 hc => ?_⟩
      have hM2 : getI M2 l f = some ds := by
        simp only [still, W.isD, Bool.false_or, asD] at hc
        cases q2 : getI M2 l f with
        | none => rw [q2] at hc; simp at hc
        | some d2 =>
          rw [q2] at hc
          simp only at hc
          have := D.same_eq hc; cases this; rfl
      obtain ⟨as2, p2, vs2, k1, k2, k3, k4, _⟩ := rp2.changeI (ds' := []) hM2
      have ey2 := rf_ref (rl1.td t2) k1 k2
      rw [ey] at ey2; cases ey2
      exact ⟨vs2, .of k3, k4⟩
  | _ => simp [sitems] at e2
theorem rl_pair {K : PySem.W.Frag} {m : Addr → Prop} {H : Hp} {T : Addr} {d1 d2 : D} {x y : V} (dom : ∀ a, m a → H a ≠ none) (np : H T = none) (r1 : Rl K fa m H d1 x) (r2 : Rl K fa m H d2 y) : Rl K fa m (upd H T (.tup [x, y])) (.tup [d1, d2]) (.ref T) :=
  .newT dom np (.cons r1 (.cons r2 (by simp [Rls])))
theorem wk_zip {ρ0 : Rho} {H0 : Hp} {b1 b2 : Bool} {p1 p2 : Addr} {xs ys : List D} {c1 c2 : Mem → Bool} (h1 : ∀ ρ H M, Td ρ0 H0 ρ H → Rep X.K fa ρ H M → c1 M = true → ∃ vs, Sq b1 X.K H p1 vs ∧ Rls X.K fa (mu ρ) H xs vs)
    (h2 : ∀ ρ H M, Td ρ0 H0 ρ H → Rep X.K fa ρ H M → c2 M = true → ∃ vs, Sq b2 X.K H p2 vs ∧ Rls X.K fa (mu ρ) H ys vs) : Wk X.K fa ρ0 H0 (List.zipWith (fun a b => D.tup [a, b]) xs ys, fun M => c1 M && c2 M) (ItZ X.K b1 b2 p1 p2) where
  go := fun ρ H M t rp c i x e => by
    simp only [Bool.and_eq_true] at c
    obtain ⟨vs, g1, g2⟩ := h1 ρ H M t rp c.1
    obtain ⟨us, k1, k2⟩ := h2 ρ H M t rp c.2
    rw [List.getElem?_zipWith] at e
    cases q1 : xs[i]? with
    | none => simp [q1] at e
    | some d1 => cases q2 : ys[i]? with
      | none => simp [q1, q2] at e
      | some d2 =>
        simp only [q1, q2, Option.some.injEq] at e
        subst e
        obtain ⟨v1, e1, r1⟩ := g2.get q1
        obtain ⟨v2, e2, r2⟩ := k2.get q2
        refine ⟨⟨vs, us, v1, v2, g1, k1, e1, e2⟩, fun u H' hy => ?_⟩
        obtain ⟨T, x, y, rfl, np, rfl, f1, f2⟩ := hy
        have ex := f1 vs g1
        have ey := f2 us k1
        rw [e1] at ex; rw [e2] at ey
        cases ex; cases ey
        exact ⟨same_upd np, rl_pair (fun a h => rp.dom h) np r1 r2⟩
  stop := fun ρ H M t rp c => by
    simp only [Bool.and_eq_true] at c
    obtain ⟨vs, g1, g2⟩ := h1 ρ H M t rp c.1
    obtain ⟨us, k1, k2⟩ := h2 ρ H M t rp c.2
    have l1 := g2.length
    have l2 := k2.length
    refine ⟨vs, us, g1, k1, ?_, ?_, ?_⟩ <;> simp only [List.length_zipWith] <;> omega
def evZip (ea eb : Sl → Mem → R W) : Sl → Mem → R (List D × (Mem → Bool)) := fun σ M => (ea σ M).bind fun w M => (eb σ M).bind fun w' M => ofO (asD M w) fun x => ofO (asD M w') fun y => ofO (sitems x) fun xs => ofO (sitems y) fun ys => .ok (List.zipWith (fun a b => D.tup [a, b]) xs ys, fun M => still w x M && still w' y M) M
theorem r_zip {p tpos : Pos} {elts : List Expr} {kk : Nat} (hg : Gl X "zip") (hm : X.mg "zip" = none) (ha : PE X a (rdE X.K fa XE ea)) (hb : PE X b (rdE X.K fa XE eb)) (hs : starEach [a, b] X.env = (false, eval a X.env) :: starEach [b] X.env) (hs2 : starEach [b] X.env = (false, eval b X.env) :: starEach [] X.env) :
    PI X (.Tuple elts kk tpos) (.Call (.Name "zip" p) [a, b] [] pos) (rdI X.K fa XE (evZip ea eb)) := by
  refine ⟨fun pins s σ H R I ⟨ρ, σ', M, sl, rp, q⟩ => ?_⟩
  have hpa := pa_cons ha (pa_cons hb pa_nil hs2) hs
  refine Call_ (ld_blt I hg hm PyProof.Rows.boot_zip (PyProof.Rows.callWith_type1 (thn (hpa.run pos pins s σ H (fun vs H2 => ∃ v u w w' ρ2 M2, vs = [v, u] ∧ Rep X.K fa ρ2 H2 M2 ∧ RlW X.K fa ρ2 H2 w v ∧ RlW X.K fa ρ2 H2 w' u ∧
    Post X.K fa XE ρ2 H2 (ofO (asD M2 w) fun x => ofO (asD M2 w') fun y => ofO (sitems x) fun xs => ofO (sitems y) fun ys => .ok (List.zipWith (fun a b => D.tup [a, b]) xs ys, fun M => still w x M && still w' y M) M2) (Wk X.K fa) R) I ?_) fun us s1 ⟨vs, H1, I1, r1, v, u, w, w', ρ2, M2, ev, rp2, rl, rl', q2⟩ => ?_) hs (by rw [hs2]; rfl)))
  · refine ⟨ρ, σ', M, sl, rp, (Post.bind q).mono fun v H1 ⟨w, ρ1, M1, t1, rp1, rl1, q1⟩ => ?_⟩
    refine ⟨ρ1, σ', M1, sl.to t1, rp1, (Post.bind q1).mono fun u H2 ⟨w', ρ2, M2, t2, rp2, rl2, q2⟩ => ?_⟩
    exact ⟨v, u, w, w', ρ2, M2, rfl, rp2, rl1.to t2, rl2, q2⟩
  · subst ev
    obtain ⟨x, e1, q2⟩ := Post.of q2
    obtain ⟨y, e2, q2⟩ := Post.of q2
    obtain ⟨xs, e3, q2⟩ := Post.of q2
    obtain ⟨ys, e4, q2⟩ := Post.of q2
    obtain ⟨b1, p1, rfl, k1⟩ := src_stay rp2 rl e1 e3
    obtain ⟨b2, p2, rfl, k2⟩ := src_stay rp2 rl' e2 e4
    have st : ∀ {w : W} {x : D}, asD M2 w = some x → still w x M2 = true := fun {w x} h => by simp [still, h, D.same_refl]
    obtain ⟨vs1, a1, _⟩ := k1 ρ2 H1 M2 (To.refl _ _).td rp2 (st e1)
    obtain ⟨vs2, a2, _⟩ := k2 ρ2 H1 M2 (To.refl _ _).td rp2 (st e2)
    obtain ⟨its, _, c1, lt1⟩ := a1.src I1
    obtain ⟨jts, _, c2, lt2⟩ := a2.src I1
    cases r1 with
    | cons r rr =>
      cases rr with
      | cons r' rr =>
        cases rr; cases r; cases r'
        refine zip_begins2 (beginsOf b1 p1 its.toArray) (beginsOf b2 p2 jts.toArray) c1 c2 fun h' hz hTI hTO g1 g2 hsz hk => wpAny_pyIter_zip hz ?_
        have I2 : Inv X pins σ H1 { s1 with heap := h' } := I1.kept (t' := s1.toks) hk
        have hsep := zip_sep2 (N := s1.heap.objs.size) (fp1 := [p1]) (fp2 := [p2]) (by simpa using lt1) (by simpa using lt2)
        refine ⟨_, [s1.heap.objs.size + 4, s1.heap.objs.size + 2, s1.heap.objs.size + 3, s1.heap.objs.size, s1.heap.objs.size + 1], _, _, H1, rfl, I2, turnZ (b1 := b1) (b2 := b2) hsep (Nat.ne_of_lt lt1) (Nat.ne_of_lt (Nat.lt_succ_of_lt lt2)), ⟨hz, hTI, ⟨_, _, hTO⟩, itOf_new g1, itOf_new g2⟩, fun c hcm => ?_, q2.ok rp2 (wk_zip k1 k2)⟩
        have hle : s1.heap.objs.size ≤ c := by
          simp only [List.mem_cons, List.not_mem_nil, or_false] at hcm
          rcases hcm with z | z | z | z | z <;> rw [z] <;> first | exact Nat.le_add_right _ _ | exact Nat.le_refl _
        exact I1.fpOk hle (I1.hok.fresh hle)
end
end G

set_option Elab.async false
set_option linter.all false
set_option autoImplicit false
set_option maxRecDepth 100000
set_option maxHeartbeats 4000000
/-! Soundness, part P: enumerate, items. -/
namespace G
open PySem PySem.Spec PyProof.Rows L2

theorem meets_enum1 {v : Value} {o : Obj} {H : Heap → Prop} (B : Begins v o H) :
    Meets (Builtin.«enumerate.__new__» ⟨[.type "enumerate", v], []⟩) (fun _ R s => H s.heap ∧ R (.ok (.ret (.ref (s.heap.push o).objs.size))) { s with heap := (s.heap.push o).push { cls := .type "enumerate", data := .fields #[.none, .bool false, .ref s.heap.objs.size, rawInt 0, .none, .none] } }) :=
  .of_wp fun prog w A R s hh => by
    obtain ⟨hp, g, d, tk, os⟩ := s; obtain ⟨h1, h⟩ := hh
    have hsub := sub_enumerate
    have it1 : ∀ {A' : Around} {E : Value → Shared → Prop} {Q : Value → Shared → Prop}, Q (.ref hp.objs.size) ⟨hp.push o, g, d, tk, os⟩ → wpAny (model prog w) A' (pyIter v) Q E ⟨hp, g, d, tk, os⟩ := fun q => B.iter prog w _ _ ⟨hp, g, d, tk, os⟩ _ h1 q
    wp_walk using it1
    refine wpAny_stack_any fun st => wpAny_pure ?_
    split
    · rename_i c _ _ _ _ _
      cases (c == Value.type "enumerate")
      · wp_walk using it1; exact ⟨_, rfl, h⟩
      · wp_walk using it1; exact ⟨_, rfl, h⟩
    · wp_walk using it1; exact ⟨_, rfl, h⟩
theorem enum1 {prog : Program} {w : World} {A : Around} {E : Value → Shared → Prop} {s : Shared} {v : Value} {o : Obj} {H : Heap → Prop} {Q : Value → Shared → Prop} (B : Begins v o H) (h1 : H s.heap)
    (h : ∀ h', IsEnum h' (s.heap.objs.size + 1) s.heap.objs.size 0 .none → h'.get? s.heap.objs.size = some o → (∀ b o, s.heap.get? b = some o → h'.get? b = some o) → Q (.ref (s.heap.objs.size + 1)) { s with heap := h' }) :
    wpAny (model prog w) A (PySem.call (.type "enumerate") [v]) Q E s := by
  have hz : (s.heap.push o).objs.size = s.heap.objs.size + 1 := Heap.size_push ..
  have he : IsEnum ((s.heap.push o).push { cls := .type "enumerate", data := .fields #[.none, .bool false, .ref s.heap.objs.size, rawInt 0, .none, .none] }) (s.heap.objs.size + 1) s.heap.objs.size 0 .none := by
    have e0 := Heap.get?_push_size (s.heap.push o) (o := { cls := .type "enumerate", data := .fields #[.none, .bool false, .ref s.heap.objs.size, rawInt 0, .none, .none] }) rfl
    rwa [hz] at e0
  refine callType_new F.called_enumerate (by decide) (F.typeCall_enumerate_1 _) (F.newCall_enumerate_1 _) (fun obj => F.args_object_init_2 obj _) F.entry_enumerate_new (meets_enum1 B) ⟨h1, ?_⟩
  show _ ∧ _
  rw [hz]
  exact ⟨⟨_, he, rfl⟩, h _ he (Heap.get?_push_of_some _ (Heap.get?_push_size _ B.free)) fun b o x => Heap.get?_push_of_some _ (Heap.get?_push_of_some _ x)⟩

def ItE (K : PySem.W.Frag) (b : Bool) (p : Addr) : L2.It :=
  ⟨fun i H => ∃ (xs : List V) (x : V), Sq b K H p xs ∧ xs[i]? = some x, fun i H v H' => ∃ T x, v = .ref T ∧ H T = none ∧ H' = upd H T (.tup [.int (i : Nat), x]) ∧ ∀ xs, Sq b K H p xs → xs[i]? = some x, fun i H => ∃ xs : List V, Sq b K H p xs ∧ xs.length = i⟩
theorem turnE {P : Program} {w : World} {K : PySem.W.Frag} {elts : List Expr} {kk : Nat} {tpos : Pos} {bb : Bool} {p e it : Addr} (n1 : p ≠ it) (n2 : e ≠ it) (n3 : e ≠ p) :
    Turn P w K (.Tuple elts kk tpos) (ItE K bb p) [e, it] e (fun i h => (∃ old, IsEnum h e it ((i : Nat) : Int) old) ∧ ItOf bb h it p i) where
  mem := by simp
  obj := fun i h ⟨⟨old, he⟩, hi⟩ c hc => by
    simp only [List.mem_cons, List.not_mem_nil, or_false] at hc
    rcases hc with rfl | rfl
    · exact ⟨_, he, fun v q => nomatch q⟩
    · exact hi.obj
  keep := fun i h h' ⟨⟨old, he⟩, hi⟩ k => ⟨⟨old, k e (by simp) _ he⟩, hi.keep fun o q => k it (by simp) o q⟩
  item := by
    intro X hP hw hK hc i pins s σ H E I hf ⟨⟨old, he⟩, hit⟩ ⟨xs, x, hq, hx⟩
    subst hP hw hK
    obtain ⟨its, rv, s1, _⟩ := hq.src I
    obtain ⟨u, hu, ru⟩ := rv.get hx
    have hel : e < s.heap.objs.size := Heap.lt_size he
    have hh : X.A.in1.handled = none := I.ok.hd hc
    have l1 : i < its.toArray.size := by simpa using (List.getElem?_eq_some_iff.mp hu).1
    refine wpAny_pyNext_enum_itemD (drawsOf hh bb it p n1 its.toArray) he ⟨hit, s1⟩ l1 n2 (by simp [n2, n3]) fun x1 h' tk e1 ho k1 hT hsz hk => ?_
    have ex1 : x1 = u := by simp only [List.getElem?_toArray] at e1; rw [hu] at e1; exact (Option.some.inj e1).symm
    subst ex1
    refine ⟨_, rfl, wpAny_letOwnedTupleGo_enum (s := { s with heap := h', toks := tk + 1 }) ho fun h'' he' sb => ?_⟩
    have hT2 : h''.get? s.heap.objs.size = some { cls := .type "tuple", data := .seq #[.int i tk, x1] } := (sb.2 _ (Nat.ne_of_gt hel)).trans hT
    have new : ObjOk X.prog X.w (upd H s.heap.objs.size (.tup [.int (i : Nat), x])) h'' s.heap.objs.size (.tup [.int (i : Nat), x]) := ⟨(by show 2 ≤ sizeLine; decide), [.int i tk, x1], .cons ⟨_, rfl⟩ (.cons ru .nil), ⟨_, hT2, rfl, _, rfl⟩⟩
    have I1 : Inv X pins σ (upd H s.heap.objs.size (.tup [.int (i : Nat), x])) { s with heap := h'', toks := tk + 1 } := I.turnedNew (ch := [e, it])
      (fun c o hb q => by
        simp only [List.mem_cons, List.not_mem_nil, or_false, not_or] at hb
        exact (sb.2 c hb.1).trans (hk c o hb.1 hb.2 q)) hf (Nat.le_refl _) new
    refine ⟨.ref s.heap.objs.size, _, I1, rfl, ⟨_, x, rfl, I.hok.fresh (Nat.le_refl _), rfl, fun l hl => by rw [Sq.inj I hl hq]; exact hx⟩, ⟨⟨x1, ?_⟩, k1.1.keep fun o q => (sb.2 it (Ne.symm n2)).trans q⟩, fun c hcm => ?_⟩
    · have ei : ((i + 1 : Nat) : Int) = (i : Int) + 1 := by omega
      rw [ei]; exact he'
    · have hlt : c < s.heap.objs.size := by
        simp only [List.mem_cons, List.not_mem_nil, or_false] at hcm
        rcases hcm with rfl | rfl
        · exact hel
        · obtain ⟨_, e1, _⟩ := hit.obj; exact Heap.lt_size e1
      rw [upd_ne (Nat.ne_of_lt hlt)]
      exact (hf c hcm).1
  done := by
    intro X hP hw hK hc i pins s σ H E I hf ⟨⟨old, he⟩, hit⟩ ⟨xs, hq, hx⟩
    subst hP hw hK
    obtain ⟨its, rv, s1, _⟩ := hq.src I
    have hh : X.A.in1.handled = none := I.ok.hd hc
    have m1 : its.toArray.size = i := by simp [← rv.length, hx]
    refine wpAny_pyNext_enum_endD (drawsOf hh bb it p n1 its.toArray) he (by rw [m1]; exact ⟨hit, s1⟩) fun h' eb => ⟨rfl, I.turnedL (t' := s.toks) (ch := [e, it]) (fun c o hb q => ?_) hf⟩
    simp only [List.mem_cons, List.not_mem_nil, or_false, not_or] at hb
    exact eb c o hb.2 q
  self := fun A i s Q E st h => let ⟨⟨_, he⟩, _⟩ := st; wpAny_pyIter_enum he h

section
variable {X : Cx} {fa : FW} {XE : XP} {a b c e tg : Expr} {es : List Expr} {pos : Pos} {ea eb ec : Sl → Mem → R W} {evs : Sl → Mem → R (List W)}
theorem wk_enum {ρ0 : Rho} {H0 : Hp} {b1 : Bool} {p1 : Addr} {xs : List D} {c1 : Mem → Bool} (h1 : ∀ ρ H M, Td ρ0 H0 ρ H → Rep X.K fa ρ H M → c1 M = true → ∃ vs, Sq b1 X.K H p1 vs ∧ Rls X.K fa (mu ρ) H xs vs) :
    Wk X.K fa ρ0 H0 (xs.mapIdx fun i a => D.tup [.int (i : Int), a], c1) (ItE X.K b1 p1) where
  go := fun ρ H M t rp c i x e => by
    obtain ⟨vs, g1, g2⟩ := h1 ρ H M t rp c
    rw [List.getElem?_mapIdx] at e
    cases q1 : xs[i]? with
    | none => simp [q1] at e
    | some d1 =>
      simp only [q1, Option.map_some, Option.some.injEq] at e
      subst e
      obtain ⟨v1, e1, r1⟩ := g2.get q1
      refine ⟨⟨vs, v1, g1, e1⟩, fun u H' hy => ?_⟩
      obtain ⟨T, x, rfl, np, rfl, f1⟩ := hy
      have ex := f1 vs g1
      rw [e1] at ex
      cases ex
      exact ⟨same_upd np, rl_pair (fun a h => rp.dom h) np (by simp [Rl]) r1⟩
  stop := fun ρ H M t rp c => by
    obtain ⟨vs, g1, g2⟩ := h1 ρ H M t rp c
    exact ⟨vs, g1, by simp [g2.length]⟩
def evEnum (ea : Sl → Mem → R W) : Sl → Mem → R (List D × (Mem → Bool)) := fun σ M => (ea σ M).bind fun w M => ofO (asD M w) fun x => ofO (sitems x) fun xs => if xs.length ≤ line then .ok (xs.mapIdx fun i a => D.tup [.int (i : Int), a], still w x) M else .bad
theorem r_enum {p tpos : Pos} {elts : List Expr} {kk : Nat} (hg : Gl X "enumerate") (hm : X.mg "enumerate" = none) (ha : PE X a (rdE X.K fa XE ea)) (hs : starEach [a] X.env = (false, eval a X.env) :: starEach [] X.env) :
    PI X (.Tuple elts kk tpos) (.Call (.Name "enumerate" p) [a] [] pos) (rdI X.K fa XE (evEnum ea)) := by
  refine ⟨fun pins s σ H R I ⟨ρ, σ', M, sl, rp, q⟩ => ?_⟩
  have hpa := pa_cons ha pa_nil hs
  refine Call_ (ld_blt I hg hm boot_enumerate (PyProof.Rows.callWith_type1 (thn (hpa.run pos pins s σ H (fun vs H2 => ∃ v w ρ2 M2, vs = [v] ∧ Rep X.K fa ρ2 H2 M2 ∧ RlW X.K fa ρ2 H2 w v ∧
    Post X.K fa XE ρ2 H2 (ofO (asD M2 w) fun x => ofO (sitems x) fun xs => if xs.length ≤ line then .ok (xs.mapIdx fun i a => D.tup [.int (i : Int), a], still w x) M2 else .bad) (Wk X.K fa) R) I ?_) fun us s1 ⟨vs, H1, I1, r1, v, w, ρ2, M2, ev, rp2, rl, q2⟩ => ?_) hs rfl))
  · refine ⟨ρ, σ', M, sl, rp, (Post.bind q).mono fun v H1 ⟨w, ρ1, M1, t1, rp1, rl1, q1⟩ => ?_⟩
    exact ⟨v, w, ρ1, M1, rfl, rp1, rl1, q1⟩
  · subst ev
    obtain ⟨x, e1, q2⟩ := Post.of q2
    obtain ⟨xs, e3, q2⟩ := Post.of q2
    split at q2
    · obtain ⟨b1, p1, rfl, k1⟩ := src_stay rp2 rl e1 e3
      obtain ⟨vs1, a1, _⟩ := k1 ρ2 H1 M2 (To.refl _ _).td rp2 (by simp [still, e1, D.same_refl])
      obtain ⟨its, _, c1, lt1⟩ := a1.src I1
      cases r1 with
      | cons r rr =>
        cases rr; cases r
        refine enum1 (beginsOf b1 p1 its.toArray) c1 fun h' he hit hk => wpAny_pyIter_enum he ?_
        have I2 : Inv X pins σ H1 { s1 with heap := h' } := I1.kept (t' := s1.toks) hk
        refine ⟨_, [s1.heap.objs.size + 1, s1.heap.objs.size], _, _, H1, rfl, I2, turnE (bb := b1) (Nat.ne_of_lt lt1) (Nat.succ_ne_self _) (Nat.ne_of_gt (Nat.lt_succ_of_lt lt1)), ⟨⟨.none, he⟩, itOf_new hit⟩, fun c hcm => ?_, q2.ok rp2 (wk_enum k1)⟩
        have hle : s1.heap.objs.size ≤ c := by
          simp only [List.mem_cons, List.not_mem_nil, or_false] at hcm
          rcases hcm with z | z <;> rw [z] <;> first | exact Nat.le_add_right _ _ | exact Nat.le_refl _
        exact I1.fpOk hle (I1.hok.fresh hle)
    · exact q2.elim

/-! ### d.items() -/
/-- the pairs of a dict that is known to the object -/
def ItD (d : Addr) (o : Obj) (kv vv : List V) : L2.It :=
  ⟨fun i H => H d = some (oHO d o) ∧ i < kv.length, fun i H x H' => ∃ T k v, kv[i]? = some k ∧ vv[i]? = some v ∧ x = .ref T ∧ H T = none ∧ H' = upd H T (.tup [k, v]), fun i H => H d = some (oHO d o) ∧ i = kv.length⟩
theorem turnD {P : Program} {w : World} {K : PySem.W.Frag} {elts : List Expr} {kk : Nat} {tpos : Pos} {d it : Addr} {o : Obj} {kv vv : List V} {es : Array DictEntry} {ep : Nat} (hx : o.ExactDict) (hod : o.data = .dict es ep) (hk : Vals kv (es.toList.map (·.key))) (hv : Vals vv (es.toList.map (·.val))) :
    Turn P w K (.Tuple elts kk tpos) (ItD d o kv vv) [it] it (fun i h => ∃ ok ov, IsItemIter h it d i es.size ep ok ov) where
  mem := by simp
  obj := fun i h ⟨ok, ov, e⟩ b hb => by
    have e' : b = it := by simpa using hb
    subst e'
    exact ⟨_, e, fun v z => nomatch z⟩
  keep := fun i h h' ⟨ok, ov, e⟩ k => ⟨ok, ov, k it (by simp) _ e⟩
  item := by
    intro X hP hw hK hc i pins s σ H E I hf ⟨ok, ov, he⟩ ⟨hd, hi⟩
    subst hP hw hK
    have hm : DT.Raw s.heap d es ep := ⟨o, inv_o I hd, hx, hod⟩
    have lk : kv.length = es.size := by have := hk.length; simpa using this
    have lv : vv.length = es.size := by have := hv.length; simpa using this
    have hi' : i < es.size := by omega
    obtain ⟨u1, g1, r1⟩ := hk.get (List.getElem?_eq_getElem hi)
    obtain ⟨u2, g2, r2⟩ := hv.get (List.getElem?_eq_getElem (by omega : i < vv.length))
    have g1' : u1 = es[i].key := by simp [hi'] at g1; exact g1.symm
    have g2' : u2 = es[i].val := by simp [hi'] at g2; exact g2.symm
    subst g1' g2'
    have hlt : it < s.heap.objs.size := Heap.lt_size he
    refine DT.nextI he hm hi' fun h' ho hT hz hkp => ?_
    refine ⟨_, rfl, wpAny_letOwnedTupleGo_items (s := { s with heap := h' }) ho fun h'' he' sb => ?_⟩
    have hT2 : h''.get? s.heap.objs.size = some { cls := .type "tuple", data := .seq #[es[i].key, es[i].val] } := (sb.2 _ (Nat.ne_of_gt hlt)).trans hT
    have new : ObjOk X.prog X.w (upd H s.heap.objs.size (.tup [kv[i], vv[i]])) h'' s.heap.objs.size (.tup [kv[i], vv[i]]) := ⟨(by show 2 ≤ sizeLine; decide), [es[i].key, es[i].val], .cons r1 (.cons r2 .nil), ⟨_, hT2, rfl, _, rfl⟩⟩
    have I1 : Inv X pins σ (upd H s.heap.objs.size (.tup [kv[i], vv[i]])) { s with heap := h'' } :=
      I.turnedNew (t' := s.toks) (ch := [it]) (fun b ob hb e => (sb.2 b (by simpa using hb)).trans (hkp b ob (by simpa using hb) e)) hf (Nat.le_refl _) new
    refine ⟨.ref s.heap.objs.size, _, I1, rfl, ⟨_, _, _, List.getElem?_eq_getElem hi, List.getElem?_eq_getElem (by omega), rfl, I.hok.fresh (Nat.le_refl _), rfl⟩, ⟨_, _, he'⟩, fun b hb => ?_⟩
    have e' : b = it := by simpa using hb
    rw [e', upd_ne (Nat.ne_of_lt hlt)]
    exact (hf it (by simp)).1
  done := by
    intro X hP hw hK hc i pins s σ H E I hf ⟨ok, ov, he⟩ ⟨hd, hi⟩
    subst hP hw hK
    have hm : DT.Raw s.heap d es ep := ⟨o, inv_o I hd, hx, hod⟩
    have lk : kv.length = es.size := by have := hk.length; simpa using this
    obtain ⟨f0, f1, f2, f3, f4, f5⟩ := hf it (by simp)
    exact DT.endI (I.ok.hd hc) he hm (by omega) fun h' eb => ⟨rfl, I.turned (t' := s.toks) (fun b ob hb e => eb b ob hb e) f0 f1 f3 f4 f5⟩
  self := fun A i s Q E st h => let ⟨_, _, e⟩ := st; PySem.W.kcp_self e h
def evItems (ea : Sl → Mem → R W) : Sl → Mem → R (List D × (Mem → Bool)) := fun σ M => (ea σ M).bind fun w M => match w with
    | .d (.dct ks vs) => .ok (List.zipWith (fun a b => D.tup [a, b]) ks vs, fun _ => true) M
    | _ => .bad
theorem r_items {tpos apos cpos : Pos} {elts : List Expr} {kk : Nat} (ha : PE X a (rdE X.K fa XE ea)) (hbase : attributeBase a "items" X.env (eval a X.env) = eval a X.env) (hline : (apos.endLine == cpos.line) = true) :
    PI X (.Tuple elts kk tpos) (.Call (.Attribute a "items" apos) [] [] cpos) (rdI X.K fa XE (evItems ea)) := by
  refine ⟨fun pins s σ H R I ⟨ρ, σ', M, sl, rp, q⟩ => ?_⟩
  refine wpAny_Call_method (T := "dict") (id := "dict.items") hbase rfl hline PySem.F.plainAttrs_dict PySem.F.slot_dict_items PySem.F.type_dict_items (thn (ha.run pins s σ H _ I ⟨ρ, σ', M, sl, rp, Post.bind q⟩) fun u s1 ⟨x, H1, I1, rx, w, ρ1, M1, t1, rp1, rl1, q1⟩ => ?_)
  cases w with
  | d y =>
    cases y with
    | dct ks vs =>
      have rl := rl1
      simp only [RlW, Rl] at rl
      obtain ⟨p, o, xs, kv, vv, rfl, nm, h1, h2, h3, h4⟩ := rl
      cases rx
      obtain ⟨es, ep, hod, hes⟩ := h4.dat
      have hm : DT.Raw s1.heap p es ep := ⟨o, inv_o I1 h1, h4.ex, hod⟩
      have e1 : es.toList.map (·.key) = xs.map fun x => Value.ref x.2.1 := by rw [hes, List.map_map]; rfl
      have e2 : es.toList.map (·.val) = xs.map (·.2.2) := by rw [hes, List.map_map]; rfl
      have hk : Vals kv (es.toList.map (·.key)) := by
        rw [e1, h4.ad]
        clear h2 h3 h4 hes e1 e2
        induction xs with
        | nil => exact .nil
        | cons z zs ih => exact .cons rfl ih
      have hv : Vals vv (es.toList.map (·.val)) := by rw [e2]; exact h4.vs
      refine ⟨hm.typeIs, ?_, ?_⟩
      · exact fun o' ho' => by
          cases ho'
          exact ⟨o, inv_o I1 h1, h4.ex.2.1⟩
      have I2 : Inv X pins σ H1 { s1 with heap := s1.heap.push { cls := .type "dict_items", data := .fields #[.ref p] } } := I1.kept (t' := s1.toks) fun b ob q => Heap.get?_push_of_some _ q
      have wk : Wk X.K fa ρ1 H1 (List.zipWith (fun a b => D.tup [a, b]) ks vs, fun _ => true) (ItD p o kv vv) := by
        refine ⟨fun ρ2 H2 M2 td rp2 _ i z e => ?_, fun ρ2 H2 M2 td rp2 _ => ⟨(td.keep p _ h1 nm).1, ?_⟩⟩
        · rw [List.getElem?_zipWith] at e
          cases q1 : ks[i]? with
          | none => simp [q1] at e
          | some d1 => cases q2 : vs[i]? with
            | none => simp [q1, q2] at e
            | some d2 =>
              simp only [q1, q2, Option.some.injEq] at e
              subst e
              obtain ⟨v1, f1, r1⟩ := (h2.keep td.keep).get q1
              obtain ⟨v2, f2, r2⟩ := (h3.keep td.keep).get q2
              refine ⟨⟨(td.keep p _ h1 nm).1, (List.getElem?_eq_some_iff.mp f1).1⟩, fun u H' hy => ?_⟩
              obtain ⟨T, k, v, g1, g2, rfl, np, rfl⟩ := hy
              rw [f1] at g1; rw [f2] at g2
              cases g1; cases g2
              exact ⟨same_upd np, rl_pair (fun a h => rp2.dom h) np r1 r2⟩
        · have l1 := h2.length
          have l2 := h3.length
          have l3 := hk.length
          have l4 := hv.length
          simp only [List.length_map] at l3 l4
          simp only [List.length_zipWith]
          omega
      have fin : wpAny (model X.prog X.w) X.A (pyIter (.ref s1.heap.objs.size)) (PIE X pins σ (.Tuple elts kk tpos) R) X.xe { s1 with heap := s1.heap.push { cls := .type "dict_items", data := .fields #[.ref p] } } := by
        refine DT.iterI (d := p) ⟨_, Heap.get?_push_size _ rfl, rfl, rfl⟩ (hm.push _) (pi_one (tk := s1.toks) I2 _ (turnD h4.ex hod hk hv) ⟨.none, .none, ?_⟩ (q1.ok rp1 wk))
        exact Heap.get?_push_size _ rfl
      show wpAny _ _ (callWith cpos (.builtin "dict.items") [.ref p] [] []) _ X.xe s1
      exact method_meetsIn PySem.F.slot_dict_items PySem.F.entry_dict_items rfl (PySem.evalArgs_none ⟨rfl, hm.typeIs, PySem.F.args_dict_items_1 _, _, DT.meetsItems (es := es) (ep := ep) h4.sys, hm, fin⟩)
    | _ => exact q1.elim
  | _ => exact q1.elim
end
end G

set_option Elab.async false
set_option linter.all false
set_option autoImplicit false
set_option maxRecDepth 100000
set_option maxHeartbeats 4000000
/-! Soundness, part Q: sorted by the first part; calls of a local def; insert. -/
namespace G
open PySem PySem.Spec PyProof.Rows L2

/-- what a key's def looks like: return x[0] -/
def keyBody (y : Str) : List Stmt → Bool
  | [.Return (some (.Subscript (.Name z _) (.Constant (.int i) _ _) _)) _] => decide (z = y) && decide (i = 0)
  | _ => false
theorem keyBody_of {y : Str} {body : List Stmt} (h : keyBody y body = true) : ∃ p1 j p2 p3 p4, body = [.Return (some (.Subscript (.Name y p1) (.Constant (.int 0) j p2) p3)) p4] := by
  unfold keyBody at h
  split at h
  · simp only [Bool.and_eq_true, decide_eq_true_eq] at h
    obtain ⟨rfl, rfl⟩ := h
    exact ⟨_, _, _, _, _, rfl⟩
  · cases h
theorem call_fst {P : Program} {w : World} {K : PySem.W.Frag} {x qual y : Str} {params : Arguments} {body : List Stmt} {scope : Scope} {f : Addr} {fd : FuncData} (F : FunD K x qual params body scope [] [] f fd) (S : FnScope [y] [y] scope) (hy : scope.names.lookup y = some .local)
    (hbd : keyBody y body = true) (hdb : (y == ("__debug__" : Str)) = false) (hb : Binds K fd [y] []) {A : Around} (hr : A.depth < recursionLimit) {s : Shared} (KX : K.In s.heap) (lim : s.heap.NoLimit) {a : Addr} {its : Array Value} {i : Int} {t : Tok} (hT : IsTup s.heap a its)
    (h0 : its[0]? = some (.int i t)) {Q : Value → Shared → Prop} {E : Value → Shared → Prop} (q : ∀ h' tk, (∀ b o, s.heap.get? b = some o → h'.get? b = some o) → Q (.int i t) { s with heap := h', toks := tk }) : wpAny (model P w) A (PySem.call (.ref f) [.ref a]) Q E s := by
  obtain ⟨p1, j, p2, p3, p4, rfl⟩ := keyBody_of hbd
  obtain ⟨oc, od, dV, kV, doc, pm, an, cdv, ct, osl, rfl, lk, hcd, _, _⟩ := F.ex
  have hkind : ∀ z ∈ [y].zip [Value.ref a], scope.names.lookup z.1 = some .local ∨ (scope.names.lookup z.1 = some .cell ∧ ((cellsFrom (s.heap.objs.size + 1) scope.names []).lookup z.1).isSome = true) := fun z hz => by
    simp only [List.zip_cons_cons, List.zip_nil_right, List.mem_singleton] at hz
    subst hz; exact .inl hy
  have run : codeAny (model P w) A (.call (.ref f) ⟨[.ref a], []⟩) (fun r s' => ∃ h' tk, r = .ok (.ret (.int i t)) ∧ s' = { s with heap := h', toks := tk } ∧ ∀ b o, s.heap.get? b = some o → h'.get? b = some o) s := by
    refine codeAny_call_function hr (KX _ _ lk) rfl S.co S.gen rfl (PySem.W.codeRec_of KX hcd) (hb s [.ref a] KX rfl _ _ _ _ ?_)
    refine wpAny_newFunctionEnv_cells S.kind hkind fun env he s1 xx => ?_
    subst he
    refine ⟨lim.keeps xx.toInCall.keep, codeAny_func ?_⟩
    obtain ⟨h1, tk1, rfl, hk⟩ := xx.done
    have hl : bindL (envOfC qual scope s.heap.objs.size f cdv).kindOf ([y].zip [Value.ref a]) (fun _ => none) y = some (.ref a) := bindL_get (i := 0) S.nd rfl rfl hy
    have hT1 : IsTup h1 a its := by
      obtain ⟨o, g1, g2⟩ := hT
      exact ⟨o, hk _ _ g1, g2⟩
    refine wpAny_execs_cons (wpAny_Return_some (Subscript_ (wpAny_Name (wpAny_loadName_local S.kind hy xx.toInCall.ns hl ?_) hdb)))
    refine wpAny_Constant_int ?_
    refine subscriptTail_builtinR (x := .int i t) hT1.typeIs PyProof.Rows.slot_tuple_getitem.lookup ?_ rfl
    refine getItem_tuple (j := 0) hT1 (by decide) (by decide) ?_ h0 ⟨rfl, h1, _, rfl, rfl, hk⟩
    have : 0 < its.size := (Array.getElem?_eq_some_iff.mp h0).1
    exact seqIndex_of (by decide) (by omega)
  refine wpAny_call (codeAny_mono run fun r s' hq => ?_)
  obtain ⟨h', tk, rfl, rfl, hk⟩ := hq
  exact q h' tk hk

/-- a def that gives the first part of its tuple -/
structure KeyFn (K : PySem.W.Frag) (mg : Str → Option Value) (s : Str) : Prop where
  ex : ∃ (a : Addr) (x qual y : Str) (params : Arguments) (body : List Stmt) (scope : Scope) (fd : FuncData), mg s = some (.ref a) ∧ FunD K x qual params body scope [] [] a fd ∧ FnScope [y] [y] scope ∧ scope.names.lookup y = some .local ∧ keyBody y body = true ∧ (y == ("__debug__" : Str)) = false ∧ Binds K fd [y] []
section
variable {X : Cx} {fa : FW} {XE : XP} {a b c e tg : Expr} {es : List Expr} {pos : Pos} {ea eb ec : Sl → Mem → R W} {evs : Sl → Mem → R (List W)}
theorem rls_pairs {K : PySem.W.Frag} {m : Addr → Prop} {H : Hp} : ∀ {zs : List (D × V)}, (∀ p ∈ zs, Rl K fa m H p.1 p.2) → Rls K fa m H (zs.map (·.1)) (zs.map (·.2))
  | [], _ => by simp [Rls]
  | z :: zs, h => .cons (h z (by simp)) (rls_pairs fun p hp => h p (by simp [hp]))
theorem rls_zip {K : PySem.W.Frag} {m : Addr → Prop} {H : Hp} : ∀ {ds : List D} {vs : List V}, Rls K fa m H ds vs → (∀ p ∈ ds.zip vs, Rl K fa m H p.1 p.2) ∧ (ds.zip vs).map (·.1) = ds ∧ (ds.zip vs).map (·.2) = vs
  | [], vs, h => by rw [h.nil]; simp
  | d :: ds, vs, h => by
    obtain ⟨v, r, rfl, h1, h2⟩ := h.uncons
    obtain ⟨g1, g2, g3⟩ := rls_zip h2
    refine ⟨fun p hp => ?_, by simp [g2], by simp [g3]⟩
    simp only [List.zip_cons_cons, List.mem_cons] at hp
    rcases hp with rfl | hp
    · exact h1
    · exact g1 p hp
def rSortK (X : Cx) (fa : FW) (f : Addr) : List V → List V → Hp → VK → Prop := fun vs zs H Q => ∃ (m : Addr → Prop) (v : V) (d r : D), (∀ a, m a → H a ≠ none) ∧ vs = [v] ∧ zs = [.ref f] ∧ Vw X.K fa m H d v ∧ sortKD d = some r ∧ ∀ u H', Same H H' → Rl X.K fa m H' r u → Q u H'
theorem cr_sortK {s0 : Str} {k : Nat} (hr : Room k X.A) {f : Addr} (hf : X.mg s0 = some (.ref f)) (KF : KeyFn X.K X.mg s0) : CallRK X (.builtin "sorted") [Str.ofString "key"] (rSortK X fa f) := by
  intro pins s σ H xs zs us ws Q I r rz ⟨m, v, d, res, dom, e1, e2, hv, ho, q⟩
  subst e1 e2
  obtain ⟨f', x, qual, y, params, body, scope, fd, k1, k2, k3, k4, k5, k6, k7⟩ := KF.ex
  rw [hf] at k1; cases k1
  cases d with
  | lst ds =>
    simp only [sortKD] at ho
    split at ho
    · rename_i hl
      simp only [Bool.and_eq_true, decide_eq_true_eq, List.all_eq_true] at hl
      simp only [Option.some.injEq] at ho; subst ho
      obtain ⟨p, vs, rfl, h1, h2⟩ := vw_sq hv
      obtain ⟨its, rv, pl, hz⟩ := I.list (.of h1)
      rw [Vals.ref1 r, Vals.ref1 rz]
      obtain ⟨g1, g2, g3⟩ := rls_zip h2
      have lim : s.heap.NoLimit := I.mod.nolimit.keeps I.bk
      let R : Value → D × V → Prop := fun u z => RelV z.2 u ∧ ∃ a its t, u = .ref a ∧ IsTup s.heap a its ∧ its[0]? = some (.int (fstI z.1) t)
      have each : PySem.W.EachIs R its (ds.zip vs) := by
        have key : ∀ (ds : List D) (vs : List V) (its : List Value), (∀ x ∈ ds, isFst x = true) → Rls X.K fa m H ds vs → Vals vs its → PySem.W.EachIs R its (ds.zip vs) := by
          intro ds
          induction ds with
          | nil => intro vs its _ h hv; rw [h.nil] at hv; cases hv; rw [h.nil]; exact .nil
          | cons d ds ih =>
            intro vs its hd h hv
            obtain ⟨v, r, rfl, h1, h2⟩ := h.uncons
            cases hv with
            | cons q1 q2 =>
              refine .cons ⟨q1, ?_⟩ (ih _ _ (fun x hx => hd x (by simp [hx])) h2 q2)
              have hd0 := hd d (by simp)
              cases d <;> simp only [isFst, Bool.false_eq_true] at hd0
              rename_i xs
              match xs, hd0, h1 with
              | .int i :: xs, _, h1 =>
                simp only [Rl] at h1
                obtain ⟨a, us, rfl, _, h3, h4⟩ := h1
                cases q1
                obtain ⟨jts, rj, tp, _⟩ := I.tuple (.of h3)
                obtain ⟨u0, ur, rfl, h5, _⟩ := h4.uncons
                simp only [Rl] at h5; subst h5
                cases rj with
                | cons q3 _ =>
                  obtain ⟨t, rfl⟩ := q3
                  exact ⟨a, _, t, rfl, tp, by simp [fstI]⟩
        exact key ds vs its hl.1 h2 rv
      have hlen : (ds.zip vs).length = ds.length := by have := congrArg List.length g2; simpa using this
      have un := hr.un
      refine PySem.W.sorted_key_data (β := D × V) (R := R) (b := false) (f := .ref f) (fun z => .int (fstI z.1)) pl.isList each (.of fun _ _ => rfl) (.others fun _ => ⟨by simp, by simp⟩) (by rw [hlen]; exact line_le hl.2)
        (fun z _ => by show X.A.units + 2 + 0 < cLine; omega) (ksk_s1 _ _) (fun z => by unfold argsOk; kernel_rfl) (fun z => ksk_t1 _ _) (fun u z hR hz h tk hk => ?_) fun out cc h' tk hk hn ha hlo hE => ?_
      · obtain ⟨_, a, jts, t, rfl, ht, h0⟩ := hR
        refine call_fst k2 k3 k4 k5 k6 k7 (A := X.A.in1.in1) (by have := hr.dp; show X.A.depth < recursionLimit; omega) (s := { s with heap := h, toks := tk }) (PySem.W.Frag.In.keeps I.kIn hk) (lim.keeps hk) (a := a) (its := jts) ?_ h0 fun h2 tk2 hk2 => ?_
        · obtain ⟨o, e1, e2⟩ := ht
          exact ⟨o, hk _ _ e1, e2⟩
        · exact ⟨h2, tk2, rfl, hk2, .int _ _⟩
      · rw [PySem.W.dataLe_int] at hE
        obtain ⟨zs, hzs⟩ : ∃ zs, zs = (ds.zip vs).mergeSort (fun a b => decide (fstI a.1 ≤ fstI b.1)) := ⟨_, rfl⟩
        rw [← hzs] at hE
        have e1 : zs.map (·.1) = sortK ds := by
          rw [hzs, List.map_mergeSort (s := fun a b => decide (fstI a ≤ fstI b)) (fun _ _ _ _ => rfl), g2]; rfl
        have hmem : ∀ p ∈ zs, Rl X.K fa m H p.1 p.2 := fun p hp => g1 p (by rw [hzs] at hp; exact List.mem_mergeSort.mp hp)
        have np : H (s.heap.objs.size + 1) = none := I.hok.fresh (Nat.le_succ _)
        have hv2 : Vals (zs.map (·.2)) out := by
          clear hzs e1 hmem hlo ha
          induction hE with
          | nil => exact .nil
          | cons h _ ih => exact .cons h.1 ih
        have hl2 : (zs.map (·.2)).length ≤ sizeLine := by
          have : zs.length = ds.length := by rw [hzs, List.length_mergeSort, hlen]
          simp only [List.length_map, this]; exact line_le hl.2
        refine ⟨.ref _, _, I.laid (a := s.heap.objs.size + 1) (o := .lst (zs.map (·.2))) (t' := tk) hk (Nat.le_succ _) ⟨hl2, out, cc, hv2, ha⟩, rfl, q _ _ (same_upd np) ?_⟩
        rw [← e1]
        exact .newL dom np (rls_pairs hmem)
    · cases ho
  | _ => simp [sortKD] at ho
theorem r_sortedK {s0 : Str} {p p2 p3 : Pos} {k : Nat} (hr : Room k X.A) (KF : KeyFn X.K X.mg s0) (hg : Gl X "sorted") (hm : X.mg "sorted" = none) (hg2 : Gl X s0) (hdb : (s0 == ("__debug__" : Str)) = false) (ha : PE X a (rdE X.K fa XE ea)) (hs : starEach [a] X.env = (false, eval a X.env) :: starEach [] X.env) :
    PE X (.Call (.Name "sorted" p) [a] [⟨some "key", .Name s0 p2, p3⟩] pos) (rdE X.K fa XE (ev1 sortKD ea)) := by
  obtain ⟨f, x, qual, y, params, body, scope, fd, k1, _⟩ := id KF.ex
  refine pe_of (pe_callBK (cr_sortK (fa := fa) hr k1 KF) hg hm (by decide +kernel) (pa_cons ha pa_nil hs) (pk_cons (pe_glob (v := .ref f) hg2 k1 rfl hdb) pk_nil) (by decide) (by decide) (by simp only [backTo, hs, List.map_cons]; rfl) (by simp only [backTo, hs, List.map_cons]; rfl)) fun σ H Q ⟨ρ, σ', M, sl, rp, q⟩ => ?_
  refine ⟨ρ, σ', M, sl, rp, (Post.bind q).mono fun v H1 ⟨w, ρ1, M1, t1, rp1, rl1, q1⟩ => ?_⟩
  obtain ⟨y2, e1, q1⟩ := Post.of q1
  obtain ⟨z, e2, q1⟩ := Post.val q1 rp1
  exact ⟨mu ρ1, v, y2, z, fun a h => rp1.dom h, rfl, rfl, rl1.vw rp1 e1, e2, q1⟩
end
end G

set_option Elab.async false
set_option linter.all false
set_option autoImplicit false
set_option maxRecDepth 100000
set_option maxHeartbeats 4000000
/-! Soundness, part R: {k: v for ..} with None, ints, texts as keys. -/
namespace G
open PySem PySem.Spec PyProof.Rows L2

/-- what putting y: z into the dict at D asks of the heap -/
abbrev TPut := Addr → V → V → Hp → (Hp → Prop) → Prop
def PutR (X : Cx) (t : TPut) : Prop := ∀ (pn : List (Addr × Obj)) (τ : L2.St) (G : Hp) (c : Shared) (D : Addr) (y z : V) (u r : Value) (E : Value → Shared → Prop) (Nx : Hp → Prop) (Q : Unit → Shared → Prop), Inv X pn τ G c → RelV y u → RelV z r → t D y z G Nx →
  (∀ c' G', Inv X pn τ G' c' → Nx G' → Q () c') → wpAny (model X.prog X.w) X.A (dictSet D u r) Q E c
/-- the reading of such a comprehension: o0 is the new dict -/
def tDg (o0 : Addr → HO) (put : TPut) (wi : TI) (g : TG) (tk tv : TE) (vs : List Nat) : TE := fun σ H Q => wi σ H fun J H1 => ∀ D, H1 D = none → ∃ W : Nat → Nat → Hp → Prop, (∃ m, W 0 m (upd H1 D (o0 D))) ∧ ∀ i m H, W i m H →
  (J.stop i H ∧ Q (.ref D) H) ∨ (J.go i H ∧ ∃ Nx : Hp → Prop, (∀ H', Nx H' → ∃ m', m' < m ∧ W (i + 1) m' H') ∧ ∀ x H', J.yld i H x H' → g x (L2.wipe σ vs) H' fun σ2 H2 => L2.wipe σ2 vs = L2.wipe σ vs ∧ tk σ2 H2 fun y H4 => tv σ2 H4 fun z H5 => put D y z H5 Nx)
section
variable {X : Cx} {kx vx tg iter : Expr} {scope : Scope} {own : List (Str × Nat)} {pos : Pos} {wi : TI} {g : TG} {tk tv : TE} {o0 : Addr → HO} {put : TPut}
/-- one turn and the next: the loop of the block -/
theorem dg_loop (cc : X.calm = true) {P0 : Shared} {G0 : Hp} {ce : Env} {fp : List Addr} {it D : Addr} {J : L2.It} {tn : Nat → Heap → Prop} {σ : L2.St} {W : Nat → Nat → Hp → Prop} {R : Result → Shared → Prop} {Q : VK}
    (T : Turn X.prog X.w X.K tg J fp it tn) (pg : PG (X.blk P0 G0 scope ce fp) tg g) (pk : PE (X.blk P0 G0 scope ce fp) kx tk) (pv : PE (X.blk P0 G0 scope ce fp) vx tv) (pp : PutR (X.blk P0 G0 scope ce fp) put)
    (turn : ∀ i m H, W i m H → (J.stop i H ∧ Q (.ref D) H) ∨ (J.go i H ∧ ∃ Nx : Hp → Prop, (∀ H', Nx H' → ∃ m', m' < m ∧ W (i + 1) m' H') ∧ ∀ x H', J.yld i H x H' → g x (L2.wipe σ (own.map (·.2))) H' fun σ2 H2 => L2.wipe σ2 (own.map (·.2)) = L2.wipe σ (own.map (·.2)) ∧ tk σ2 H2 fun y H4 => tv σ2 H4 fun z H5 => put D y z H5 Nx))
    (hend : ∀ c G, Inv (X.blk P0 G0 scope ce fp) [] (L2.wipe σ (own.map (·.2))) G c → Q (.ref D) G → R (.ok .next) c)
    {m0 : Nat} {c0 : Shared} {Gs : Hp} (I0 : Inv (X.blk P0 G0 scope ce fp) [] (L2.wipe σ (own.map (·.2))) Gs c0) (s0 : tn 0 c0.heap) (n0 : ∀ b ∈ fp, Gs b = none) (w0 : W 0 m0 Gs) :
    codeAny (model X.prog X.w) X.A (.compLoop (.DictComp kx vx [⟨tg, iter, [], 0⟩] scope pos) 0 (.ref it) (.ref D) ce) R c0 := by
  have own_ok : ∀ {τ : L2.St} {G : Hp} {c : Shared}, Inv (X.blk P0 G0 scope ce fp) [] τ G c → (∀ b ∈ fp, G b = none) → ∀ b ∈ fp, FpOk (X.blk P0 G0 scope ce fp) [] G b := fun {τ G c} J1 hn b hb =>
    ⟨hn b hb, (J1.ok.exf b hb).1, J1.ok.exfs b hb, .inl hb, fun x k e => (J1.ok.exf b hb).2 x k e, fun p hp => by cases hp⟩
  refine compLoop_anyD (fun n c => ∃ i G, Inv (X.blk P0 G0 scope ce fp) [] (L2.wipe σ (own.map (·.2))) G c ∧ tn i c.heap ∧ (∀ b ∈ fp, G b = none) ∧ W i n G) ?_ m0 ⟨0, Gs, I0, s0, n0, w0⟩
  rintro n c1 ⟨i, G1, I1, s1, n1, w1⟩
  rcases turn i n G1 w1 with ⟨hs, hq⟩ | ⟨hg, Nx, hNx, step⟩
  · refine thnF (T.done (X.blk P0 G0 scope ce fp) rfl rfl rfl cc i [] c1 _ G1 (fun _ _ => False) I1 (own_ok I1 n1) s1 hs) fun r c2 ⟨hr, I2⟩ => ?_
    subst hr
    exact hend c2 G1 I2 hq
  · refine thnF (T.item (X.blk P0 G0 scope ce fp) rfl rfl rfl cc i [] c1 _ G1 (fun _ _ => False) I1 (own_ok I1 n1) s1 hg) fun r c2 ⟨u, hr, h2⟩ => ?_
    subst hr
    refine thnF h2 fun _ c3 ⟨x, G3, I3, r3, y3, s3, n3⟩ => ?_
    refine thnF (pg.run _ c3 _ G3 x u _ (I3.pinned (own_ok I3 n3) (T.obj _ _ s3)) r3 (step x G3 y3)) fun _ c4 ⟨σ4, G4, I4, hw4, q4⟩ => ?_
    refine thnF ((pts_nil (X := X.blk P0 G0 scope ce fp)).run _ c4 σ4 G4 (fun b H => b = true ∧ H = G4) I4 ⟨rfl, rfl⟩) fun b c5 ⟨G5, I5, hb, hG⟩ => ?_
    subst hb hG
    rw [if_pos rfl]
    refine thnF (pk.run _ c5 σ4 _ _ I5 q4) fun kv c6 ⟨yk, G6, I6, r6, q6⟩ => ?_
    refine thnF (pv.run _ c6 σ4 G6 _ I6 q6) fun vv c7 ⟨yv, G7, I7, r7, q7⟩ => ?_
    refine pp _ σ4 G7 c7 D yk yv kv vv _ Nx _ I7 r6 r7 q7 fun c8 G8 I8 nx => ?_
    obtain ⟨m', hm, w'⟩ := hNx G8 nx
    have held : ∀ b ∈ fp, ∀ o, c3.heap.get? b = some o → c8.heap.get? b = some o ∧ G8 b = none := fun b hb o e => by
      have z := I8.pin (b, o) (List.mem_append_right _ (List.mem_append_right _ (mem_pinsAt hb e)))
      exact ⟨z.1, z.2.1⟩
    refine ⟨m', hm, i + 1, G8, (I8.unpinned (pins := [])).weak (by rw [← hw4, L2.wipe_length]) (fun j v e => ?_), T.keep _ _ _ s3 fun b hb o e => (held b hb o e).1, fun b hb => ?_, w'⟩
    · rw [← hw4] at e; exact (wipe_some e).1
    · obtain ⟨o, e, _⟩ := T.obj _ _ s3 b hb
      exact (held b hb o e).2
theorem dg_core {pins : List (Addr × Obj)} {s : Shared} {σ : L2.St} {H : Hp} {Q : VK} {pos' : Pos} {use : Option (Value → Sem Unit)} {Qf : Value → Shared → Prop} (I : Inv X pins σ H s) (h : tDg o0 put wi g tk tv (own.map (·.2)) σ H Q)
    (hRR : ∀ D C s' m H', Inv X pins σ H' s' → Q (.ref D) H' → s'.heap.Ns C m → FpOk X pins H' C → compPost (model X.prog X.w) X.A X.xe use Qf (.ref D) C (.ok .next) s') (cc : X.calm = true) (hN : X.N.Nodup) (hi : PI X tg iter wi) (ok : BlkOk X.N X.env.scope scope own) (hg : ∀ (s : Shared) (H : Hp) (C : Addr) (cl : List (Str × Addr)) (fp : List Addr), PG (X.blk s H scope (compEnvC scope cl C X.env) fp) tg g)
    (hk : ∀ (s : Shared) (H : Hp) (C : Addr) (cl : List (Str × Addr)) (fp : List Addr), PE (X.blk s H scope (compEnvC scope cl C X.env) fp) kx tk) (hv : ∀ (s : Shared) (H : Hp) (C : Addr) (cl : List (Str × Addr)) (fp : List Addr), PE (X.blk s H scope (compEnvC scope cl C X.env) fp) vx tv)
    (hp : ∀ (s : Shared) (H : Hp) (C : Addr) (cl : List (Str × Addr)) (fp : List Addr), PutR (X.blk s H scope (compEnvC scope cl C X.env) fp) put) (hs : ∀ x, foldedSetIterable iter X.env x = pure x) (hnew : ∀ H h a, h.get? a = some emptyD → ObjOk X.prog X.w H h a (o0 a)) :
    wpAny (model X.prog X.w) X.A (comprehension (.DictComp kx vx [⟨tg, iter, [], 0⟩] scope pos) scope X.env pos' newDict false (eval iter X.env) use) Qf X.xe s := by
  have hfree : ∀ y ∈ scope.names, y.2 = .free → ∃ c, X.env.cells.lookup y.1 = some c := fun y hy e => (ok.free y hy e).elim (fun k => I.ok.has _ (.inl k)) fun k => I.ok.has _ (.inr k)
  refine wpAny_comprehension_free (use := use) rfl hs (closure_ok hfree) ok.kind (fun y hy e => by rw [ok.uniq y hy, e]) (thn (hi.run pins s σ H _ I h) fun xv c1 hx => thn hx fun itv c2 h2 => ?_)
  obtain ⟨it, fp, tn, J, H2, e, I2, T, st2, f2, q⟩ := h2
  subst e
  refine wpAny_newObj_type (newEnv_comp ?_)
  obtain ⟨D, hD⟩ : ∃ D, D = c2.heap.objs.size := ⟨_, rfl⟩
  obtain ⟨W, ⟨m0, w0⟩, turn⟩ := q D (I2.hok.fresh (Nat.le_of_eq hD.symm))
  obtain ⟨c3, hc3⟩ : ∃ c3 : Shared, c3 = { c2 with heap := c2.heap.push emptyD } := ⟨_, rfl⟩
  have h3 : c3.heap = c2.heap.push emptyD := by rw [hc3]
  have I3 : Inv X pins σ (upd H2 D (o0 D)) c3 := by
    rw [hc3]
    exact I2.laid (t' := c2.toks) (fun b o e => Heap.get?_push_of_some _ e) (Nat.le_of_eq hD.symm) (hnew _ _ _ (by rw [hD]; exact Heap.get?_push_size _ rfl))
  have low : ∀ b ∈ fp, b < c2.heap.objs.size := fun b hb => by
    obtain ⟨o, e, _⟩ := T.obj _ _ st2 b hb
    exact Heap.lt_size e
  have f3 : ∀ b ∈ fp, FpOk X pins (upd H2 D (o0 D)) b ∧ b < c3.heap.objs.size := fun b hb =>
    ⟨⟨by rw [upd_ne (by rw [hD]; exact Nat.ne_of_lt (low b hb))]; exact (f2 b hb).1, (f2 b hb).2⟩, by rw [h3, Heap.size_push]; exact Nat.lt_succ_of_lt (low b hb)⟩
  have st3 : tn 0 c3.heap := T.keep _ _ _ st2 fun b _ o e => by rw [h3]; exact Heap.get?_push_of_some _ e
  have I4 := block_start I3 ok hN f3
  obtain ⟨cl, hcl⟩ : ∃ cl, cl = cellsFrom (c3.heap.objs.size + 1) scope.names (cloFrom X.env.cells scope.names []) := ⟨_, rfl⟩
  rw [← hcl] at I4
  obtain ⟨G3, hG3⟩ : ∃ G3, G3 = upd H2 D (o0 D) := ⟨_, rfl⟩
  rw [← hG3] at I3 I4 f3 w0
  obtain ⟨c4, hc4⟩ : ∃ c4 : Shared, c4 = { c3 with heap := pushCells (c3.heap.push { cls := .type "dict", data := .dict #[] }) scope.names } := ⟨_, rfl⟩
  rw [← hc4] at I4
  have st4 : tn 0 c4.heap := T.keep _ _ _ st3 fun b _ o e => by rw [hc4]; exact pushCells_keeps _ _ _ _ (Heap.get?_push_of_some _ e)
  have goalE : codeAny (model X.prog X.w) X.A (.compStart (.DictComp kx vx [⟨tg, iter, [], 0⟩] scope pos) 0 (.ref it) (.ref D) (compEnvC scope cl c3.heap.objs.size X.env)) (compPost (model X.prog X.w) X.A X.xe use Qf (.ref D) c3.heap.objs.size) c4 := by
    have loop : codeAny (model X.prog X.w) X.A (.compLoop (.DictComp kx vx [⟨tg, iter, [], 0⟩] scope pos) 0 (.ref it) (.ref D) (compEnvC scope cl c3.heap.objs.size X.env)) (compPost (model X.prog X.w) X.A X.xe use Qf (.ref D) c3.heap.objs.size) c4 := by
      refine dg_loop (P0 := c3) (G0 := G3) cc T (hg _ _ _ _ _) (hk _ _ _ _ _) (hv _ _ _ _ _) (hp _ _ _ _ _) turn (fun c G I5 hq => ?_) I4 st4 (fun b hb => (f3 b hb).1.1) w0
      have I6 : Inv X pins σ G c := I3.call' (ch := fp) I5.os I5.base I5.hok I5.bare fun b hb => ⟨(f3 b hb).1.2.2.2.1, (f3 b hb).1.2.1, (f3 b hb).1.2.2.2.2.1, (f3 b hb).1.2.2.2.2.2⟩
      have nC : G c3.heap.objs.size = none := I5.free
      obtain ⟨m, hn, _⟩ := I5.loc
      exact hRR D c3.heap.objs.size c m G I6 hq hn (I3.fpOk (Nat.le_refl _) nC)
    exact codeAny_compStart_dict loop (T.self X.A 0 _ _ _ st4 loop)
  rw [hD, hcl, hc4] at goalE
  rw [hc3] at goalE
  exact goalE
theorem pe_dg (cc : X.calm = true) (hN : X.N.Nodup) (hi : PI X tg iter wi) (ok : BlkOk X.N X.env.scope scope own) (hg : ∀ (s : Shared) (H : Hp) (C : Addr) (cl : List (Str × Addr)) (fp : List Addr), PG (X.blk s H scope (compEnvC scope cl C X.env) fp) tg g)
    (hk : ∀ (s : Shared) (H : Hp) (C : Addr) (cl : List (Str × Addr)) (fp : List Addr), PE (X.blk s H scope (compEnvC scope cl C X.env) fp) kx tk) (hv : ∀ (s : Shared) (H : Hp) (C : Addr) (cl : List (Str × Addr)) (fp : List Addr), PE (X.blk s H scope (compEnvC scope cl C X.env) fp) vx tv)
    (hp : ∀ (s : Shared) (H : Hp) (C : Addr) (cl : List (Str × Addr)) (fp : List Addr), PutR (X.blk s H scope (compEnvC scope cl C X.env) fp) put) (hs : ∀ x, foldedSetIterable iter X.env x = pure x) (hnew : ∀ H h a, h.get? a = some emptyD → ObjOk X.prog X.w H h a (o0 a)) :
    PE X (.DictComp kx vx [⟨tg, iter, [], 0⟩] scope pos) (tDg o0 put wi g tk tv (own.map (·.2))) := ⟨fun pins s σ H Q I h => by
  rw [arm_eval_DictComp]
  refine dg_core I h (fun D C s' m H' I' q hn f => ⟨m, hn, fun h'' sb => ?_⟩) cc hN hi ok hg hk hv hp hs hnew
  obtain ⟨k0, k1, k2, k3, k4, k5⟩ := f
  exact ⟨.ref D, H', I'.turned (t' := s'.toks) (fun b o hb e => (sb.2 b hb).trans e) k0 k1 k3 k4 k5, rfl, q⟩⟩
/-- y = {..}, y a local name -/
theorem ps_setDg {i : Nat} {y : Str} {py spos : Pos} (cc : X.calm = true) (hN : X.N.Nodup) (hy : X.N[i]? = some y) (hyl : X.env.scope.names.lookup y = some .local) (hsw : swapsWith (.DictComp kx vx [⟨tg, iter, [], 0⟩] scope pos) (some (.Name y py)) spos.line X.env = pure true) (hi : PI X tg iter wi) (ok : BlkOk X.N X.env.scope scope own) (hg : ∀ (s : Shared) (H : Hp) (C : Addr) (cl : List (Str × Addr)) (fp : List Addr), PG (X.blk s H scope (compEnvC scope cl C X.env) fp) tg g)
    (hk : ∀ (s : Shared) (H : Hp) (C : Addr) (cl : List (Str × Addr)) (fp : List Addr), PE (X.blk s H scope (compEnvC scope cl C X.env) fp) kx tk) (hv : ∀ (s : Shared) (H : Hp) (C : Addr) (cl : List (Str × Addr)) (fp : List Addr), PE (X.blk s H scope (compEnvC scope cl C X.env) fp) vx tv)
    (hp : ∀ (s : Shared) (H : Hp) (C : Addr) (cl : List (Str × Addr)) (fp : List Addr), PutR (X.blk s H scope (compEnvC scope cl C X.env) fp) put) (hs : ∀ x, foldedSetIterable iter X.env x = pure x) (hnew : ∀ H h a, h.get? a = some emptyD → ObjOk X.prog X.w H h a (o0 a)) :
    PS X (.Assign [.Name y py] (.DictComp kx vx [⟨tg, iter, [], 0⟩] scope pos) spos) (tAsg (tDg o0 put wi g tk tv (own.map (·.2))) (gName i)) := ⟨fun pins s σ H D0 I h => by
  rw [exec_Assign_Name_used _ _ _ _ hsw]
  refine wpAny_bind (wpAny_standAt (wpAny_bind ?_))
  show wpAny _ X.A (do let _ ← comprehension (.DictComp kx vx [⟨tg, iter, [], 0⟩] scope pos) scope X.env (firstIterPos [⟨tg, iter, [], 0⟩] pos) newDict false (eval iter X.env) (some (assign (.Name y py) X.env))) _ _ s
  have h' : tDg o0 put wi g tk tv (own.map (·.2)) σ H (fun x H1 => gName i x σ H1 D0.nx) := h
  refine wpAny_bind (thn (dg_core (Qf := fun _ s' => SP X pins D0 .next s') I h' (fun L C s' m H' I' q hn f => ?_) cc hN hi ok hg hk hv hp hs hnew) fun _ s' hq => wpAny_pure (wpAny_pure hq))
  show wpAny _ _ (assign (.Name y py) X.env (.ref L)) _ _ _
  refine wpAny_assign_Name (store_ok2 (v := V.ref L) I' hN hy (.inl hyl) rfl (fun s2 I2 ⟨a, sb, ha⟩ => ?_) (.inr hyl))
  obtain ⟨k0, k1, k2, k3, k4, k5⟩ := f
  have haC : C ≠ a := ha.elim (fun z => by rw [z]; exact k1) fun z e => k4 y a z e.symm
  exact ⟨m, hn.sameBut sb haC, fun h3 sb3 => ⟨_, H', I2.turned (t' := s2.toks) (fun b o hb e => (sb3.2 b hb).trans e) k0 k1 k3 k4 k5, q⟩⟩⟩
end
end G

set_option Elab.async false
set_option linter.all false
set_option autoImplicit false
set_option maxRecDepth 100000
set_option maxHeartbeats 4000000
/-! Soundness, part S: the dict's comprehension as the language has it. -/
namespace G
open PySem PySem.Spec PyProof.Rows L2

/-- a flat key's value -/
def FkV : D → V → Prop
  | .non, v => v = .non
  | .int i, v => v = .int i
  | .str z, v => v = .str ⟨z.toArray⟩
  | _, _ => False
theorem fkV_is {P : Program} {w : World} {k : D} {v : V} {u : Value} (r : FkV k v) (ru : RelV v u) : k.fkey = true ∧ (noneKind P w).is (fk k) u = true := by
  cases k <;> simp only [FkV] at r
  · subst r; cases ru; exact ⟨rfl, rfl⟩
  · subst r; obtain ⟨t, rfl⟩ := ru; exact ⟨rfl, mixKind_int P w _ t⟩
  · subst r; obtain ⟨t, rfl⟩ := ru; exact ⟨rfl, mixKind_str P w _ t⟩
theorem fkV_of {K : PySem.W.Frag} {fa : FW} {m : Addr → Prop} {H : Hp} {k : D} {v : V} (h : k.fkey = true) (r : Rl K fa m H k v) : FkV k v := by
  cases k <;> simp only [D.fkey, Bool.false_eq_true] at h <;> simpa [Rl, FkV] using r
def putF (fa : FW) : TPut := fun p y z H Nx => ∃ (o : Obj) (xs : List (Option Key × Value)) (k : D), H p = some (oHO p o) ∧ (∀ h : Heap, h.get? p = some o → h.DictOf (noneKind fa.p fa.w) p xs) ∧ xs.length ≤ sizeLine ∧ FkV k y ∧
  ∀ o' r, RelV z r → (∀ h : Heap, h.get? p = some o' → h.DictOf (noneKind fa.p fa.w) p (stored xs (fk k) r)) → ((stored xs (fk k) r).map (·.1)).Nodup → Nx (upd H p (oHO p o'))
theorem putF_ok {X : Cx} {fa : FW} (hp : fa.p = X.prog) (hw : fa.w = X.w) : PutR X (putF fa) := by
  intro pn τ G c p y z u r E Nx Q I ry rz ⟨o, xs, k, h1, h2, h3, h4, h5⟩ q
  obtain ⟨f, P, w⟩ := fa
  simp only at hp hw; subst hp hw
  refine wpAny_dictSet_pairs (hsz := h3) (fkV_is h4 ry).2 (h2 c.heap (inv_o I h1)) fun h' dd hs => ?_
  obtain ⟨o', es, ep, e1, e2, e3, e4, e5, e6⟩ := dd
  refine q _ _ (I.write (x := p) (e := p) (by rw [h1]; exact True.intro) (.inl rfl) (fun b v hb hv => (hs.2 b hb).trans hv) ⟨o', e1⟩ (oHO_ok e1)) (h5 o' r rz (fun h e => ⟨o', es, ep, e, e2, e3, e4, e5, e6⟩) e6)

section
variable {K : PySem.W.Frag} {fa : FW} {m : Addr → Prop} {H : Hp}
theorem stored_any (xs : List (Option Key × Value)) (k : D) (hk : k.fkey = true) : ∀ {ks : List D}, xs.map (·.1) = ks.map fk → (∀ a ∈ ks, a.fkey = true) → xs.any (fun kv => decide (kv.1 = fk k)) = ks.any fun a => D.eqv a k := by
  induction xs with
  | nil => intro ks h _; cases ks <;> simp_all
  | cons x xs ih =>
    intro ks h g
    cases ks with
    | nil => simp at h
    | cons a ks =>
      simp only [List.map_cons, List.cons.injEq] at h
      simp only [List.any_cons, h.1, fk_eq (g a (by simp)) hk]
      rw [ih h.2 fun z hz => g z (by simp [hz])]
theorem putF_old {k v : D} {w : V} {u : Value} (hk : k.fkey = true) (rv : Rl K fa m H v w) (ru : RelV w u) : ∀ {kvs : List (D × D)} {xs : List (Option Key × Value)} {vv : List V}, xs.map (·.1) = (kvs.map (·.1)).map fk → (∀ a ∈ kvs.map (·.1), a.fkey = true) → (xs.map (·.1)).Nodup →
    Rls K fa m H (kvs.map (·.2)) vv → Vals vv (xs.map (·.2)) → (kvs.map (·.1)).any (fun a => D.eqv a k) = true →
    (putD k v kvs).map (·.1) = kvs.map (·.1) ∧ (xs.map fun kv => if kv.1 = fk k then (kv.1, u) else kv).map (·.1) = xs.map (·.1) ∧ ∃ vv', Rls K fa m H ((putD k v kvs).map (·.2)) vv' ∧ Vals vv' ((xs.map fun kv => if kv.1 = fk k then (kv.1, u) else kv).map (·.2))
  | [], _, _, _, _, _, _, _, h => by simp at h
  | (a, b) :: r, [], _, h, _, _, _, _, _ => by simp at h
  | (a, b) :: r, x :: xs, vv, h, g, nd, rl, vl, hh => by
    simp only [List.map_cons, List.cons.injEq] at h
    simp only [List.map_cons, List.nodup_cons] at nd
    simp only [List.map_cons] at rl vl
    obtain ⟨v0, vr, rfl, r1, r2⟩ := rl.uncons
    have hall : (xs.map fun kv => if kv.1 = fk k then (kv.1, u) else kv).map (·.1) = xs.map (·.1) := by
      rw [List.map_map]; congr 1; funext z; simp only [Function.comp]; split <;> rfl
    cases vl with
    | cons q1 q2 =>
      have en := fk_eq (g a (by simp)) hk
      simp only [putD]
      split
      · rename_i hq
        rw [hq] at en
        have e1 : fk a = fk k := of_decide_eq_true en
        have e2 : (xs.map fun kv => if kv.1 = fk k then (kv.1, u) else kv) = xs := by
          conv => rhs; rw [← List.map_id xs]
          apply List.map_congr_left
          intro z hz
          rw [if_neg]
          · rfl
          · intro hz2
            exact nd.1 (by rw [h.1, e1, ← hz2]; exact List.mem_map_of_mem hz)
        refine ⟨by simp, ?_, w :: vr, .cons rv r2, ?_⟩
        · rw [List.map_cons, List.map_cons, hall]; simp only [List.map_cons]; split <;> rfl
        · rw [List.map_cons, List.map_cons, e2, if_pos (by rw [h.1, e1])]
          exact .cons ru q2
      · rename_i hq
        have hq' : D.eqv a k = false := by simpa using hq
        rw [hq'] at en
        have e1 : fk a ≠ fk k := of_decide_eq_false en
        simp only [List.map_cons, List.any_cons, hq', Bool.false_or] at hh
        obtain ⟨i1, i0, vv', i2, i3⟩ := putF_old hk rv ru h.2 (fun z hz => g z (by simp [hz])) nd.2 r2 q2 hh
        refine ⟨by simp [i1], ?_, v0 :: vv', .cons r1 i2, ?_⟩
        · rw [List.map_cons, List.map_cons, hall]; simp only [List.map_cons]; split <;> rfl
        · rw [List.map_cons, List.map_cons, if_neg (by rw [h.1]; exact e1)]
          exact .cons q1 i3
/-- the state within: the dict at p holds done -/
structure MidF (K : PySem.W.Frag) (fa : FW) (ρ1 : Rho) (H1 : Hp) (p : Addr) (done : List (D × D)) (H : Hp) (M : Mem) : Prop where
  ex : ∃ ρ o xs vv, To ρ1 H1 ρ H ∧ Rep K fa (ρ.own p) H M ∧ H p = some (oHO p o) ∧ Rls K fa (mu (ρ.own p)) H (done.map (·.2)) vv ∧ DF fa p o (done.map (·.1)) vv xs
theorem dc_noexc {chk : Mem → Bool} {bind : D → Option Sl} {key val : Sl → Mem → R W} {c : Nat} {M2 : Mem} : ∀ (xs : List D) (acc : List (D × D)) (M : Mem), dcLoop chk bind key val xs acc M ≠ .exc c M2
  | [], acc, M => by simp only [dcLoop]; split <;> simp
  | x :: xs, acc, M => by
    simp only [dcLoop]
    split
    · split
      · simp
      · split
        · split
          · split
            · exact dc_noexc xs _ _
            · simp
          · simp
        · simp
    · simp
end
section
variable {X : Cx} {fa : FW} {XE : XP} {evI : Sl → Mem → R (List D × (Mem → Bool))} {evK evV : Sl → Mem → R W} {t : Tg}
def evDc (t : Tg) (evI : Sl → Mem → R (List D × (Mem → Bool))) (evK evV : Sl → Mem → R W) : Sl → Mem → R W := fun σ M => (evI σ M).bind fun p M => (dcLoop p.2 (fun x => bindT t x (wipe σ t.vars)) evK evV p.1 [] M).bind fun kvs M => .ok (.d (.dcf (kvs.map (·.1)) (kvs.map (·.2)))) M
theorem t_dcomp {vs : List Nat} {σV : StV} {H : Hp} {Q : VK} (hv : vs = t.vars) (q : rdE X.K fa XE (evDc t evI evK evV) σV H Q) :
    tDg (fun p => oHO p emptyD) (putF fa) (rdI X.K fa XE evI) (rdG X.K fa t) (rdE X.K fa F0 evK) (rdE X.K fa F0 evV) vs σV H Q := by
  subst hv
  obtain ⟨ρ, σ, M, sl, rp, q⟩ := q
  refine ⟨ρ, σ, M, sl, rp, (Post.bind q).mono fun J H1 ⟨p, ρ1, M1, t1, rp1, wk, q1⟩ dd nD => ?_⟩
  cases hr : dcLoop p.2 (fun x => bindT t x (wipe σ t.vars)) evK evV p.1 [] M1 with
  | exc c M2 => exact absurd hr (dc_noexc _ _ _)
  | bad => rw [hr] at q1; exact q1.elim
  | ok kvs M2 =>
    rw [hr] at q1
    have q2 : Post X.K fa XE ρ1 H1 (.ok (.d (.dcf (kvs.map (·.1)) (kvs.map (·.2)))) M2) (RlW X.K fa) Q := q1
    have sl1 := sl.to t1
    refine ⟨fun i n H => i ≤ p.1.length ∧ n = p.1.length - i ∧ ∃ done M, MidF X.K fa ρ1 H1 dd done H M ∧ dcLoop p.2 (fun x => bindT t x (wipe σ t.vars)) evK evV (p.1.drop i) done M = .ok kvs M2,
      ⟨p.1.length, Nat.zero_le _, by simp, [], M1, ⟨ρ1, emptyD, [], [], .same rp1 (same_upd nD), rp1.own nD, upd_same, by simp [Rls], ⟨fun h e => ⟨emptyD, #[], 0, e, ⟨rfl, rfl, rfl⟩, rfl, fun e he => by simp at he, .nil, by simp⟩, by simp, rfl, .nil, by simp, by simp⟩⟩, by simpa using hr⟩, ?_⟩
    rintro i n H2 ⟨hi, rfl, done, M3, ⟨ρ2, o, xs, vv, t2, rp2, hp2, rl2, df⟩, run⟩
    have tdo : Td ρ1 H1 (ρ2.own dd) H2 := t2.td.own nD
    by_cases hlt : i < p.1.length
    · have hx : p.1[i]? = some p.1[i] := List.getElem?_eq_getElem hlt
      rw [List.drop_eq_getElem_cons hlt] at run
      simp only [dcLoop] at run
      split at run
      case isFalse => cases run
      rename_i hchk
      cases hb : bindT t p.1[i] (wipe σ t.vars) with
      | none => rw [hb] at run; cases run
      | some σ1 =>
        rw [hb] at run
        simp only at run
        obtain ⟨go, yld⟩ := wk.go (ρ2.own dd) H2 M3 tdo rp2 hchk i p.1[i] hx
        refine .inr ⟨go, fun H' => ∃ done M, MidF X.K fa ρ1 H1 dd done H' M ∧ dcLoop p.2 (fun x => bindT t x (wipe σ t.vars)) evK evV (p.1.drop (i + 1)) done M = .ok kvs M2, fun H' hn => ⟨p.1.length - (i + 1), by omega, hlt, rfl, hn⟩, fun v H3 hy => ?_⟩
        obtain ⟨sm, rx⟩ := yld v H3 hy
        have td3 : Td ρ1 H1 (ρ2.own dd) H3 := tdo.trans (To.td (.same rp2 sm))
        refine ⟨ρ2.own dd, p.1[i], wipe σ t.vars, σ1, (sl1.td td3).wipe _, rx, hb, fun σV2 s2 l2 k2 => ⟨wipe_ext l2 k2, ρ2.own dd, σ1, M3, s2, rp2.same sm, ?_⟩⟩
        cases hk : evK σ1 M3 with
        | exc c M4 => rw [hk] at run; cases run
        | bad => rw [hk] at run; cases run
        | ok wk0 M4 =>
          rw [hk] at run
          cases wk0 with
          | d k =>
            simp only at run
            intro ρ4 H4 y t4 rp4 ry
            obtain ⟨ρ5, rfl, ex5⟩ := own_of t4
            refine ⟨ρ5.own dd, σ1, M4, s2.to t4, rp4, ?_⟩
            cases hvv : evV σ1 M4 with
            | exc c M5 => rw [hvv] at run; cases run
            | bad => rw [hvv] at run; cases run
            | ok wv M5 =>
              rw [hvv] at run
              cases wv with
              | d vd =>
                simp only at run
                split at run
                case isFalse => cases run
                rename_i hkk
                simp only [Bool.and_eq_true, decide_eq_true_eq] at hkk
                intro ρ6 H6 z t6 rp6 rz
                obtain ⟨ρ7, rfl, ex7⟩ := own_of t6
                have hp6 : H6 dd = some (oHO dd o) := by
                  rw [t6.exk dd (by simp [Rho.own]), t4.exk dd (by simp [Rho.own])]
                  exact sm _ _ hp2
                have rl6 : Rls X.K fa (mu (ρ7.own dd)) H6 (done.map (·.2)) vv := ((rl2.keep (.same sm)).keep t4.keep).keep t6.keep
                have lx : xs.length = done.length := by have := congrArg List.length df.ks; simpa using this
                refine ⟨o, xs, k, hp6, df.dat, df.sz, fkV_of hkk.1 ry, fun o' r rr dat' nd' => ⟨putD k vd done, M5, ⟨ρ7, o', stored xs (fk k) r, ?_⟩, run⟩⟩
                have mp : mu (ρ7.own dd) dd := mu_own.mpr (.inr rfl)
                have kp : Kp (mu (ρ7.own dd)) (mu (ρ7.own dd)) H6 (upd H6 dd (oHO dd o')) := fun a u h n => ⟨by rw [upd_ne (fun e : a = dd => n (by rw [e]; exact mp))]; exact h, n⟩
                have hany := stored_any xs k hkk.1 df.ks df.key
                cases q3 : (done.map (·.1)).any (fun a => D.eqv a k) with
                | false =>
                  rw [q3] at hany
                  have est : stored xs (fk k) r = xs ++ [(fk k, r)] := by simp only [stored, hany, Bool.false_eq_true, if_false]
                  rw [est] at dat' nd' ⊢
                  refine ⟨vv ++ [z], t2.through nD rp2 sm (t4.trans t6), rp6.ownSet, upd_same, ?_, dat', ?_, ?_, ?_, nd', ?_⟩
                  · rw [putD_new q3]
                    simp only [List.map_append, List.map_cons, List.map_nil]
                    exact (rl6.append (.one rz)).keep kp
                  · rw [putD_new q3]
                    intro a ha
                    simp only [List.map_append, List.map_cons, List.map_nil, List.mem_append, List.mem_singleton] at ha
                    rcases ha with ha | ha
                    · exact df.key a ha
                    · subst ha; exact hkk.1
                  · rw [putD_new q3]; simp only [List.map_append, List.map_cons, List.map_nil, df.ks]
                  · simp only [List.map_append, List.map_cons, List.map_nil]; exact df.vs.append (.cons rr .nil)
                  · simp only [List.length_append, List.length_singleton, lx]
                    exact Nat.le_trans hkk.2 (by decide)
                | true =>
                  rw [q3] at hany
                  have est : stored xs (fk k) r = xs.map fun kv => if kv.1 = fk k then (kv.1, r) else kv := by simp only [stored, hany, if_true]
                  rw [est] at dat' nd' ⊢
                  obtain ⟨i1, i0, vv', i2, i3⟩ := putF_old hkk.1 rz rr df.ks df.key df.nd rl6 df.vs q3
                  refine ⟨vv', t2.through nD rp2 sm (t4.trans t6), rp6.ownSet, upd_same, i2.keep kp, dat', ?_, ?_, i3, nd', ?_⟩
                  · rw [i1]; exact df.key
                  · rw [i0, i1]; exact df.ks
                  · simp only [List.length_map]; exact df.sz
              | _ => simp only at run; cases run
          | _ => simp only at run; cases run
    · have ei : i = p.1.length := by omega
      subst ei
      rw [List.drop_length] at run
      simp only [dcLoop] at run
      split at run
      · rename_i hchk
        simp only [R.ok.injEq] at run
        obtain ⟨rfl, rfl⟩ := run
        refine .inl ⟨wk.stop (ρ2.own dd) H2 M3 tdo rp2 hchk, ?_⟩
        obtain ⟨rp', nm⟩ := rp2.unown
        refine q2 ρ2 H2 _ t2 rp' ?_
        show Rl X.K fa (mu ρ2) H2 (.dcf (done.map (·.1)) (done.map (·.2))) (.ref dd)
        simp only [Rl]
        exact ⟨dd, o, xs, vv, rfl, nm, hp2, rl2.keep fun a u h n => ⟨h, fun h2 => n (mu_own.mpr (.inl h2))⟩, df⟩
      · cases run
variable {kx vx tg iter : Expr} {scope : Scope} {own : List (Str × Nat)} {pos : Pos}
theorem r_dcomp (hp : fa.p = X.prog) (hw : fa.w = X.w) (cc : X.calm = true) (hN : X.N.Nodup) (hi : PI X tg iter (rdI X.K fa XE evI)) (ok : BlkOk X.N X.env.scope scope own) (hv : own.map (·.2) = t.vars)
    (hg : ∀ (s : Shared) (H : Hp) (C : Addr) (cl : List (Str × Addr)) (fp : List Addr), PG (X.blk s H scope (compEnvC scope cl C X.env) fp) tg (rdG X.K fa t))
    (hk : ∀ (s : Shared) (H : Hp) (C : Addr) (cl : List (Str × Addr)) (fp : List Addr), PE (X.blk s H scope (compEnvC scope cl C X.env) fp) kx (rdE X.K fa F0 evK))
    (he : ∀ (s : Shared) (H : Hp) (C : Addr) (cl : List (Str × Addr)) (fp : List Addr), PE (X.blk s H scope (compEnvC scope cl C X.env) fp) vx (rdE X.K fa F0 evV)) (hs : ∀ x, foldedSetIterable iter X.env x = pure x) :
    PE X (.DictComp kx vx [⟨tg, iter, [], 0⟩] scope pos) (rdE X.K fa XE (evDc t evI evK evV)) :=
  pe_of (pe_dg cc hN hi ok hg hk he (fun s H C cl fp => putF_ok (X := X.blk s H scope (compEnvC scope cl C X.env) fp) hp hw) hs fun _ _ _ e => oHO_ok e) fun _ _ _ q => t_dcomp hv q
theorem s_asgDc {i : Nat} {x : Str} {p2 spos : Pos} (hp : fa.p = X.prog) (hw : fa.w = X.w) (cc : X.calm = true) (hN : X.N.Nodup) (hi : X.N[i]? = some x) (hx : Loc X.env.scope x) (hf : X.fn x = true ∨ X.env.scope.names.lookup x = some .local) (hi2 : PI X tg iter (rdI X.K fa XE evI)) (ok : BlkOk X.N X.env.scope scope own) (hv : own.map (·.2) = t.vars)
    (hg : ∀ (s : Shared) (H : Hp) (C : Addr) (cl : List (Str × Addr)) (fp : List Addr), PG (X.blk s H scope (compEnvC scope cl C X.env) fp) tg (rdG X.K fa t))
    (hk : ∀ (s : Shared) (H : Hp) (C : Addr) (cl : List (Str × Addr)) (fp : List Addr), PE (X.blk s H scope (compEnvC scope cl C X.env) fp) kx (rdE X.K fa F0 evK))
    (he : ∀ (s : Shared) (H : Hp) (C : Addr) (cl : List (Str × Addr)) (fp : List Addr), PE (X.blk s H scope (compEnvC scope cl C X.env) fp) vx (rdE X.K fa F0 evV)) (hs : ∀ x, foldedSetIterable iter X.env x = pure x) :
    PS X (.Assign [.Name x p2] (.DictComp kx vx [⟨tg, iter, [], 0⟩] scope pos) spos) (rdS X.K fa XE fun σ M => (evDc t evI evK evV σ M).out fun w M => .nx (σ.put i w) M) := by
  have key : swapsWith (.DictComp kx vx [⟨tg, iter, [], 0⟩] scope pos) (some (.Name x p2)) spos.line X.env = pure (X.env.blockKind == .function && X.env.kindOf x == some .local && p2.line == (Expr.DictComp kx vx [⟨tg, iter, [], 0⟩] scope pos).pos.line
      && !(scope.names.any fun (n, k) => n == x && (k == .local || k == .cell))) := rfl
  cases q : (X.env.blockKind == .function && X.env.kindOf x == some .local && p2.line == (Expr.DictComp kx vx [⟨tg, iter, [], 0⟩] scope pos).pos.line
      && !(scope.names.any fun (n, k) => n == x && (k == .local || k == .cell))) with
  | false =>
    rw [q] at key
    exact s_asg hN hi hx (r_dcomp hp hw cc hN hi2 ok hv hg hk he hs) key hf
  | true =>
    rw [q] at key
    have hl : X.env.scope.names.lookup x = some .local := by
      simp only [Bool.and_eq_true] at q
      have := q.1.1.2
      exact eq_of_beq this
    refine ps_of (ps_setDg cc hN hi hl key hi2 ok hg hk he (fun s H C cl fp => putF_ok (X := X.blk s H scope (compEnvC scope cl C X.env) fp) hp hw) hs fun _ _ _ e => oHO_ok e) fun D σ H ⟨ρ, σ', M, sl, rp, q⟩ => ?_
    exact t_dcomp (XE := XE) hv ⟨ρ, σ', M, sl, rp, (PostS.out q).mono fun v H1 ⟨w, ρ1, M1, t1, rp1, rl1, q1⟩ => q1.nx rp1 ((sl.to t1).put rl1)⟩
/-! ### a call of a local def; insert -/
variable {e : Expr} {es : List Expr} {evs : Sl → Mem → R (List W)}
theorem r_calll {CX : CXT} {ex : Nat → Addr} {T : Nat → Option Fn} {k i : Nat} {x : Str} {p : Pos} (F : ∀ f a, fa.f f = some a → ∃ s, FnAt X.prog X.w X.K X.mg X.base CX fa ex T k f s) (hr : Room k X.A) (hN : X.N[i]? = some x) (hv : Vis X.env.scope x) (hx : Passes CX X (EK ex XE)) (ha : PA X (e :: es) (rdA X.K fa XE evs))
    (hdb : (x == ("__debug__" : Str)) = false) (hcd : (x == ("__classdict__" : Str)) = false) (he : starEach (e :: es) X.env = (false, eval e X.env) :: starEach es X.env) (hpl : (backTo pos (starEach es X.env)).any (·.1) = false) :
    PE X (.Call (.Name x p) (e :: es) [] pos) (rdE X.K fa XE fun σ M => match σ[i]? with
      | some (some (.d (.fn f))) => (evs σ M).bind fun ws M => call T k f ws M
      | _ => .bad) := ⟨fun pins s σV H Q I ⟨ρ, σ', M, sl, rp, q⟩ => by
  simp only at q
  split at q
  · rename_i f hf
    obtain ⟨v, e1, r1⟩ := sl.2 i _ hf
    simp only [RlW, Rl] at r1
    obtain ⟨a, h1, rfl⟩ := r1
    obtain ⟨s0, Fa⟩ := F f a h1
    obtain ⟨a', fd, ps, g1, g2, g3, g4, g5⟩ := Fa.at_
    rw [h1] at g1; cases g1
    exact (pe_callL g5 hr hN hv g3 g4 .nil hx ha hdb hcd he hpl).run pins s σV H Q I ⟨e1, t_call (X := X) ⟨ρ, σ', M, sl, rp, q⟩⟩
  · exact q.elim⟩
/-- e(..), e an expression that gives a def -/
theorem r_callx {CX : CXT} {ex : Nat → Addr} {T : Nat → Option Fn} {k : Nat} {l r : Expr} {p : Pos} {ee : Sl → Mem → R W} (F : ∀ f a, fa.f f = some a → ∃ s, FnAt X.prog X.w X.K X.mg X.base CX fa ex T k f s) (hr : Room k X.A) (hx : Passes CX X (EK ex XE)) (hf : PE X (.Subscript l r p) (rdE X.K fa XE ee)) (ha : PA X (e :: es) (rdA X.K fa XE evs))
    (he : starEach (e :: es) X.env = (false, eval e X.env) :: starEach es X.env) (hpl : (backTo pos (starEach es X.env)).any (·.1) = false) :
    PE X (.Call (.Subscript l r p) (e :: es) [] pos) (rdE X.K fa XE fun σ M => (ee σ M).bind fun w M => match w with
      | .d (.fn f) => (evs σ M).bind fun ws M => call T k f ws M
      | _ => .bad) := ⟨fun pins s σV H Q I ⟨ρ, σ', M, sl, rp, q⟩ => by
  refine Call_ (thn (hf.run pins s σV H _ I ⟨ρ, σ', M, sl, rp, Post.bind q⟩) fun u s1 ⟨v, H1, I1, r1, w, ρ1, M1, t1, rp1, rl1, q1⟩ => ?_) rfl
  split at q1
  · rename_i f
    simp only [RlW, Rl] at rl1
    obtain ⟨a, h1, rfl⟩ := rl1
    have eu : u = .ref a := r1
    subst eu
    obtain ⟨s0, Fa⟩ := F f a h1
    obtain ⟨a', fd, ps, g1, g2, g3, g4, g5⟩ := Fa.at_
    rw [h1] at g1; cases g1
    refine PySem.W.callWith_K (h₀ := X.base) I.ok.mod.kin g3 (thn (ha.run pos pins s1 σV H1 _ I1 (t_call (X := X) (ex := ex) ⟨ρ1, σ', M1, sl.to t1, rp1, q1⟩)) fun us s2 ⟨vs, H2, I2, rr, z⟩ => ⟨I2.kIn, ?_⟩) he hpl
    exact run_fn g5 hr g4 .nil hx I2 rr z
  · exact q1.elim⟩
theorem insert_ok : MtR X "list.insert" (RMt X.K fa XE .insert) := by
  intro pins s σ H x xs v us Q I rx rv ⟨ρ, w, ws, M, rp, rl, rls, q⟩
  simp only [methW, insertW] at q
  split at q
  · rename_i l i x0
    split at q
    · rename_i ds hM
      split at q
      · rename_i hlen
        obtain ⟨u, u', rfl, ru, ru'⟩ := rlws_two rls
        have eu : u = .int i := ru
        subst eu
        obtain ⟨a, vs, g1, g2, g3, g4⟩ := rp.change (ds' := ds.take i.toNat ++ x0 :: ds.drop i.toNat) hM
        obtain ⟨t1, r1⟩ := g4 (vs.take i.toNat ++ u' :: vs.drop i.toNat) ((g3.take _).append (.cons ru' (g3.drop _)))
        have h6 : ((2 : Int) ^ 63) = 9223372036854775808 := by decide
        have hl2 : line = 1000000 := rfl
        refine mt_insert pins s σ H _ _ v us Q I rx rv ⟨a, vs, i, u', rl.2 a [] g1, rfl, g2, by rw [← g3.length]; exact line_lt hlen.2.2, hlen.1, by rw [h6]; omega, ?_⟩
        have e : vs.take i.toNat ++ [u'] ++ vs.drop i.toNat = vs.take i.toNat ++ u' :: vs.drop i.toNat := by simp
        rw [e]
        exact q ρ _ _ t1 r1 (by simp [RlW, Rl])
      · exact q.elim
    · exact q.elim
  · rename_i l f i x0
    split at q
    · rename_i ds hM
      split at q
      · rename_i hlen
        obtain ⟨u, u', rfl, ru, ru'⟩ := rlws_two rls
        have eu : u = .int i := ru
        subst eu
        obtain ⟨as, a, vs, g1, g2, g3, g4, g5⟩ := rp.changeI (ds' := ds.take i.toNat ++ x0 :: ds.drop i.toNat) hM
        obtain ⟨t1, r1⟩ := g5 (vs.take i.toNat ++ u' :: vs.drop i.toNat) ((g4.take _).append (.cons ru' (g4.drop _)))
        have h6 : ((2 : Int) ^ 63) = 9223372036854775808 := by decide
        have hl2 : line = 1000000 := rfl
        refine mt_insert pins s σ H _ _ v us Q I rx rv ⟨a, vs, i, u', rf_ref rl g1 g2, rfl, g3, by rw [← g4.length]; exact line_lt hlen.2.2, hlen.1, by rw [h6]; omega, ?_⟩
        have e : vs.take i.toNat ++ [u'] ++ vs.drop i.toNat = vs.take i.toNat ++ u' :: vs.drop i.toNat := by simp
        rw [e]
        exact q ρ _ _ t1 r1 (by simp [RlW, Rl])
      · exact q.elim
    · exact q.elim
  · exact q.elim
end
end G

set_option Elab.async false
set_option linter.all false
set_option autoImplicit false
set_option maxRecDepth 100000
set_option maxHeartbeats 4000000
/-! Soundness, part T: what leaves a def; lists of lists; instances. -/
namespace G
open PySem PySem.Spec PyProof.Rows L2
section
variable {K : PySem.W.Frag} {fa : FW}
theorem sub_flat {α : Type} {l m : List (List α)} (h : l.Sublist m) : l.flatten.Sublist m.flatten := by
  induction h with
  | slnil => exact List.Sublist.refl _
  | cons a h ih => rw [List.flatten_cons]; exact ih.trans (List.sublist_append_right _ _)
  | cons_cons a h ih => rw [List.flatten_cons, List.flatten_cons]; exact (List.Sublist.refl _).append ih
/-- what a def has made for itself is let go -/
theorem Rep.cut {ρ ρ' : Rho} {H H' : Hp} {M : Mem} {n : Nat} (t : To ρ H ρ' H') (r : Rep K fa ρ' H' M) (hn : n = ρ.ls.length) : To ρ H ⟨ρ'.ls.take n, ρ'.ex⟩ H' ∧ Rep K fa ⟨ρ'.ls.take n, ρ'.ex⟩ H' (M.take n) := by
  have hmu : ∀ b, mu ⟨ρ'.ls.take n, ρ'.ex⟩ b → mu ρ' b := fun b hb => hb.elim (fun h => .inl (by
    obtain ⟨bs, h1, h2⟩ := List.mem_flatten.mp h
    exact List.mem_flatten.mpr ⟨bs, List.mem_of_mem_take h1, h2⟩)) .inr
  have k : Kp (mu ρ') (mu ⟨ρ'.ls.take n, ρ'.ex⟩) H' H' := fun b u h nm => ⟨h, fun z => nm (hmu b z)⟩
  have sub : (ρ'.ls.take n).flatten.Sublist ρ'.ls.flatten := sub_flat (List.take_sublist n ρ'.ls)
  refine ⟨⟨fun b u h nm => ?_, ?_, fun l a as hl e => ?_, t.ex, t.exk⟩, ⟨by simp [r.len], List.Nodup.sublist (sub.append (List.Sublist.refl _)) r.nd, r.exd, fun l o e => ?_⟩⟩
  · obtain ⟨h1, h2⟩ := t.keep b u h nm
    exact ⟨h1, fun z => h2 (hmu b z)⟩
  · simp only [List.length_take]; have := t.len; omega
  · refine t.head l a as hl ?_
    rw [List.getElem?_take] at e
    split at e
    · exact e
    · cases e
  · rw [List.getElem?_take] at e
    split at e
    · rename_i hl
      obtain ⟨as, g1, g2⟩ := r.obj l o e
      exact ⟨as, by rw [List.getElem?_take, if_pos hl]; exact g1, g2.keep k fun _ _ => rfl⟩
    · cases e
theorem Rl.cut {ρ' : Rho} {H' : Hp} {n : Nat} {x : D} {v : V} (h : Rl K fa (mu ρ') H' x v) : Rl K fa (mu ⟨ρ'.ls.take n, ρ'.ex⟩) H' x v :=
  Rl.keep (fun b u h nm => ⟨h, fun z => nm (z.elim (fun h => .inl (by
    obtain ⟨bs, h1, h2⟩ := List.mem_flatten.mp h
    exact List.mem_flatten.mpr ⟨bs, List.mem_of_mem_take h1, h2⟩)) .inr)⟩) h
/-- .. but one new thing goes along -/
theorem Rep.cut1 {ρ ρ' : Rho} {H H' : Hp} {M : Mem} {n l : Nat} {o : O} (t : To ρ H ρ' H') (r : Rep K fa ρ' H' M) (hn : n = ρ.ls.length) (hl : n ≤ l) (hM : M[l]? = some o) :
    ∃ as, ρ'.ls[l]? = some as ∧ To ρ H ⟨ρ'.ls.take n ++ [as], ρ'.ex⟩ H' ∧ Rep K fa ⟨ρ'.ls.take n ++ [as], ρ'.ex⟩ H' (M.take n ++ [o]) := by
  obtain ⟨as, e0, ob⟩ := r.obj l o hM
  have hlt : l < ρ'.ls.length := (List.getElem?_eq_some_iff.mp e0).1
  have sub : (ρ'.ls.take n ++ [as]).Sublist ρ'.ls := by
    have h1 : ρ'.ls = ρ'.ls.take n ++ ρ'.ls.drop n := (List.take_append_drop n _).symm
    have h2 : [as].Sublist (ρ'.ls.drop n) := by
      rw [List.singleton_sublist]
      have : (ρ'.ls.drop n)[l - n]? = some as := by rw [List.getElem?_drop]; rw [show n + (l - n) = l by omega]; exact e0
      exact List.mem_of_getElem? this
    calc (ρ'.ls.take n ++ [as]).Sublist (ρ'.ls.take n ++ ρ'.ls.drop n) := (List.Sublist.refl _).append h2
      _ = ρ'.ls := h1.symm
  have hmu : ∀ b, mu ⟨ρ'.ls.take n ++ [as], ρ'.ex⟩ b → mu ρ' b := fun b hb => hb.elim (fun h => .inl (by
    obtain ⟨bs, h1, h2⟩ := List.mem_flatten.mp h
    exact List.mem_flatten.mpr ⟨bs, sub.subset h1, h2⟩)) .inr
  have k : Kp (mu ρ') (mu ⟨ρ'.ls.take n ++ [as], ρ'.ex⟩) H' H' := fun b u h nm => ⟨h, fun z => nm (hmu b z)⟩
  have hlen : (ρ'.ls.take n).length = n := by simp only [List.length_take]; omega
  have hlM : (M.take n).length = n := by simp only [List.length_take]; have := r.len; omega
  refine ⟨as, e0, ⟨fun b u h nm => ?_, ?_, fun j a bs hj e => ?_, t.ex, t.exk⟩, ⟨by simp [hlen, hlM], List.Nodup.sublist ((sub_flat sub).append (List.Sublist.refl _)) r.nd, r.exd, fun j ob2 e => ?_⟩⟩
  · obtain ⟨h1, h2⟩ := t.keep b u h nm
    exact ⟨h1, fun z => h2 (hmu b z)⟩
  · simp only [List.length_append, hlen, List.length_singleton]; omega
  · refine t.head j a bs hj ?_
    rw [List.getElem?_append_left (by omega), List.getElem?_take] at e
    split at e
    · exact e
    · cases e
  · by_cases hj : j < n
    · rw [List.getElem?_append_left (by omega), List.getElem?_take, if_pos hj] at e
      obtain ⟨bs, g1, g2⟩ := r.obj j ob2 e
      exact ⟨bs, by rw [List.getElem?_append_left (by omega), List.getElem?_take, if_pos hj]; exact g1, g2.keep k fun _ _ => rfl⟩
    · rw [List.getElem?_append_right (by omega), hlM] at e
      have hj0 : j - n = 0 := by
        by_cases h0 : j - n = 0
        · exact h0
        · rw [List.getElem?_singleton, if_neg h0] at e; cases e
      rw [hj0] at e
      simp only [List.getElem?_cons_zero, Option.some.injEq] at e; subst e
      refine ⟨as, ?_, ob.keep k fun _ _ => rfl⟩
      rw [List.getElem?_append_right (by omega), hlen, hj0]; rfl
/-- from a def's body to its call -/
theorem fin_ok {XE : XP} {ρ : Rho} {H : Hp} {M : Mem} {o : Out} {Q : VK} (rp : Rep K fa ρ H M) (q : Post K fa XE ρ H (fin M.length o) (RlW K fa) Q) : PostS K fa XE ρ H o { nx := fun _ H' => Q .non H', rt := Q } := by
  have hn : M.length = ρ.ls.length := rp.len.symm
  cases o with
  | nx σ M' =>
    intro ρ' H' σV t rp' _
    obtain ⟨t1, r1⟩ := rp'.cut t hn
    exact q _ H' _ t1 r1 (by simp [RlW, Rl])
  | exc c M' =>
    intro ρ' H' t rp'
    obtain ⟨t1, r1⟩ := rp'.cut t hn
    exact q _ H' t1 r1
  | bad => exact q
  | ret w M' =>
    intro ρ' H' v t rp' rl
    obtain ⟨t1, r1⟩ := rp'.cut t hn
    cases w with
    | d x => exact q _ H' v t1 r1 (Rl.cut rl)
    | r l =>
      simp only [fin] at q
      split at q
      · rename_i hl
        refine q _ H' v t1 r1 ⟨by have h0 := t1.len; show l < (ρ'.ls.take M.length).length; simp only at h0; omega, fun a as e => ?_⟩
        refine rl.2 a as ?_
        have e' : (ρ'.ls.take M.length)[l]? = some (a :: as) := e
        rw [List.getElem?_take, if_pos hl] at e'
        exact e'
      · rename_i hl
        split at q
        · rename_i ob hM
          obtain ⟨as0, e0, t2, r2⟩ := rp'.cut1 t hn (by omega) hM
          have hlen : (ρ'.ls.take M.length).length = M.length := by have h0 := t.len; simp only [List.length_take]; omega
          refine q _ H' v t2 r2 ⟨by show M.length < (ρ'.ls.take M.length ++ [as0]).length; simp [hlen], fun a as e => ?_⟩
          have e' : (ρ'.ls.take M.length ++ [as0])[M.length]? = some (a :: as) := e
          rw [List.getElem?_append_right (by omega), hlen, Nat.sub_self] at e'
          simp only [List.getElem?_cons_zero, Option.some.injEq] at e'
          exact rl.2 a as (by rw [e0, e'])
        · exact q.elim
    | rf l f =>
      simp only [fin] at q
      split at q
      · rename_i hl
        obtain ⟨b, e, hlt, h⟩ := rl
        have hlen : (ρ'.ls.take M.length).length = M.length := by have h0 := t.len; simp only [List.length_take]; omega
        refine q _ H' v t1 r1 ⟨b, e, by show l < (ρ'.ls.take M.length).length; omega, ?_⟩
        show (ρ'.ls.take M.length)[l]? = some [] ∨ ∃ as, (ρ'.ls.take M.length)[l]? = some as ∧ as[f + 1]? = some b
        rw [List.getElem?_take, if_pos hl]; exact h
      · exact q.elim

end

/-! ### a new list goes into a thing -/
section
variable {K : PySem.W.Frag} {fa : FW}
theorem newL_some {n : Nat} {M : Mem} {w : W} {ds : List D} (h : newL n M w = some ds) : ∃ Mb, M = Mb ++ [.lst ds] ∧ n ≤ Mb.length ∧ w = .r Mb.length := by
  unfold newL at h
  split at h
  · rename_i l
    split at h
    · rename_i hl
      split at h
      · rename_i d2 hM
        cases h
        refine ⟨M.take l, ?_, by simp; omega, by simp; omega⟩
        have h1 : M.drop l = [.lst ds] := by
          rw [List.drop_eq_getElem_cons (by omega), List.drop_eq_nil_of_le (by omega)]
          rw [List.getElem?_eq_getElem (by omega)] at hM
          simp only [Option.some.injEq] at hM
          rw [hM]
        rw [← h1, List.take_append_drop]
      · cases h
    · cases h
  · cases h
/-- the last thing, a list, is taken out of the memory -/
theorem Rep.unlay {ρ1 ρ2 : Rho} {H1 H2 : Hp} {Mb : Mem} {ds : List D} {u : V} (t : To ρ1 H1 ρ2 H2) (r : Rep K fa ρ2 H2 (Mb ++ [.lst ds])) (hn : ρ1.ls.length ≤ Mb.length) (rl : RlW K fa ρ2 H2 (.r Mb.length) u) :
    ∃ (p : Addr) (vs : List V) (ρb : Rho), u = .ref p ∧ ρ2 = ⟨ρb.ls ++ [[p]], ρb.ex⟩ ∧ H2 p = some (.lst vs) ∧ Rls K fa (mu (ρb.own p)) H2 ds vs ∧ Rep K fa (ρb.own p) H2 Mb ∧ Kp (mu ρ1) (mu (ρb.own p)) H1 H2 ∧ ρ1.ls.length ≤ ρb.ls.length ∧
      (∀ (l : Nat) (a : Addr) (as : List Addr), l < ρ1.ls.length → ρb.ls[l]? = some (a :: as) → ∃ as0, ρ1.ls[l]? = some (a :: as0) ∧ as0 <+: as) ∧ ρb.ex = ρ1.ex ∧ (∀ a ∈ ρ1.ex, H2 a = H1 a) := by
  obtain ⟨ls, ex⟩ := ρ2
  have hlen : ls.length = Mb.length + 1 := by have := r.len; simpa using this
  obtain ⟨as, e1, p, vs, rfl, g1, g2⟩ := r.obj Mb.length (.lst ds) (by simp)
  have hls : ls = ls.take Mb.length ++ [[p]] := by
    have h1 : ls.drop Mb.length = [[p]] := by
      rw [List.drop_eq_getElem_cons (by omega), List.drop_eq_nil_of_le (by omega)]
      simp only at e1
      rw [List.getElem?_eq_getElem (by omega)] at e1
      simp only [Option.some.injEq] at e1
      rw [e1]
    rw [← h1, List.take_append_drop]
  have hbl : (ls.take Mb.length).length = Mb.length := by simp; omega
  have hmu : ∀ a, mu ⟨ls, ex⟩ a ↔ mu (Rho.own ⟨ls.take Mb.length, ex⟩ p) a := fun a => by
    rw [mu_own]
    have : mu ⟨ls, ex⟩ a ↔ mu ⟨ls.take Mb.length ++ [[p]], ex⟩ a := by rw [← hls]
    rw [this]
    simp only [mu, List.flatten_append, List.mem_append, List.flatten_cons, List.flatten_nil, List.append_nil, List.mem_singleton]
    constructor
    · rintro ((h | h) | h)
      · exact .inl (.inl h)
      · exact .inr h
      · exact .inl (.inr h)
    · rintro ((h | h) | h)
      · exact .inl (.inl h)
      · exact .inr h
      · exact .inl (.inr h)
  have k : Kp (mu ⟨ls, ex⟩) (mu (Rho.own ⟨ls.take Mb.length, ex⟩ p)) H2 H2 := fun a o h n => ⟨h, fun z => n ((hmu a).mpr z)⟩
  have mp : mu ⟨ls, ex⟩ p := (hmu p).mpr (mu_own.mpr (.inr rfl))
  refine ⟨p, vs, ⟨ls.take Mb.length, ex⟩, rl.2 p [] e1, by simp only; rw [← hls], g1, g2.keep k, ⟨by simp [Rho.own, hbl], ?_, fun a ha => ?_, fun l o e => ?_⟩, fun a o h n => ?_, by show ρ1.ls.length ≤ (ls.take Mb.length).length; omega, fun l a as hl e => ?_, t.ex, t.exk⟩
  · have nd := r.nd
    simp only at nd
    rw [hls] at nd
    simp only [List.flatten_append, List.flatten_cons, List.flatten_nil, List.append_nil, List.append_assoc, List.singleton_append] at nd
    exact nd
  · rcases List.mem_cons.mp ha with rfl | ha
    · rw [g1]; simp
    · exact r.exd a ha
  · have hl : l < Mb.length := (List.getElem?_eq_some_iff.mp e).1
    obtain ⟨as, h1, h2⟩ := r.obj l o (by rw [List.getElem?_append_left hl]; exact e)
    refine ⟨as, ?_, h2.keep k fun _ _ => rfl⟩
    show (ls.take Mb.length)[l]? = _
    rw [List.getElem?_take, if_pos hl]; exact h1
  · obtain ⟨h1, h2⟩ := t.keep a o h n
    exact ⟨h1, fun z => h2 ((hmu a).mpr z)⟩
  · refine t.head l a as hl ?_
    have e' : (ls.take Mb.length)[l]? = some (a :: as) := e
    rw [List.getElem?_take] at e'
    split at e'
    · exact e'
    · cases e'
/-- .. and put into another -/
theorem Rep.grow {ρ1 ρb : Rho} {H1 H : Hp} {M : Mem} {p a : Addr} {l : Nat} {o o' : O} {as : List Addr} {u : HO} (r : Rep K fa (ρb.own p) H M) (k1 : Kp (mu ρ1) (mu (ρb.own p)) H1 H) (hl1 : ρ1.ls.length ≤ ρb.ls.length)
    (hd : ∀ (l : Nat) (a : Addr) (as : List Addr), l < ρ1.ls.length → ρb.ls[l]? = some (a :: as) → ∃ as0, ρ1.ls[l]? = some (a :: as0) ∧ as0 <+: as) (hex : ρb.ex = ρ1.ex) (hexk : ∀ a ∈ ρ1.ex, H a = H1 a)
    (e : M[l]? = some o) (h1 : ρb.ls[l]? = some as) (hm : a ∈ as) (ho : ∀ m, Kp (mu (ρb.own p)) m H (upd H a u) → (∀ c, c ≠ a → upd H a u c = H c) → Ob K fa m (upd H a u) o' (as ++ [p])) :
    To ρ1 H1 ⟨ρb.ls.set l (as ++ [p]), ρb.ex⟩ (upd H a u) ∧ Rep K fa ⟨ρb.ls.set l (as ++ [p]), ρb.ex⟩ (upd H a u) (M.set l o') := by
  have hlt : l < ρb.ls.length := (List.getElem?_eq_some_iff.mp h1).1
  have nd := r.nd
  simp only [Rho.own] at nd
  have perm : (ρb.ls.set l (as ++ [p])).flatten.Perm (ρb.ls.flatten ++ [p]) := by
    have go : ∀ (ls : List (List Addr)) (l : Nat), ls[l]? = some as → (ls.set l (as ++ [p])).flatten.Perm (ls.flatten ++ [p]) := by
      intro ls
      induction ls with
      | nil => intro l h; simp at h
      | cons x ls ih =>
        intro l h
        cases l with
        | zero =>
          simp only [List.getElem?_cons_zero, Option.some.injEq] at h; subst h
          simp only [List.set_cons_zero, List.flatten_cons, List.append_assoc]
          exact (List.Perm.refl x).append (List.perm_append_comm)
        | succ l =>
          simp only [List.getElem?_cons_succ] at h
          simp only [List.set_cons_succ, List.flatten_cons, List.append_assoc]
          exact (List.Perm.refl x).append (ih l h)
    exact go ρb.ls l h1
  have hmu : ∀ b, mu ⟨ρb.ls.set l (as ++ [p]), ρb.ex⟩ b ↔ mu (ρb.own p) b := fun b => by
    rw [mu_own]
    simp only [mu]
    rw [perm.mem_iff]
    simp only [List.mem_append, List.mem_singleton]
    constructor
    · rintro ((h | h) | h)
      · exact .inl (.inl h)
      · exact .inr h
      · exact .inl (.inr h)
    · rintro ((h | h) | h)
      · exact .inl (.inl h)
      · exact .inr h
      · exact .inl (.inr h)
  have ain : a ∈ ρb.ls.flatten := List.mem_flatten.mpr ⟨as, List.mem_of_getElem? h1, hm⟩
  have ma : mu (ρb.own p) a := mu_own.mpr (.inl (.inl ain))
  have aex : a ∉ p :: ρb.ex := fun h => (List.nodup_append.mp nd).2.2 a ain a h rfl
  have k : Kp (mu (ρb.own p)) (mu ⟨ρb.ls.set l (as ++ [p]), ρb.ex⟩) H (upd H a u) := fun b o h n => ⟨by rw [upd_ne (fun e : b = a => n (by rw [e]; exact ma))]; exact h, fun z => n ((hmu b).mp z)⟩
  refine ⟨⟨fun b o h n => ?_, by simp only [List.length_set]; exact hl1, fun j b bs hj ej => ?_, hex, fun b hb => ?_⟩, by have := r.len; simpa [Rho.own] using this, ?_, fun b hb => ?_, fun j ob ej => ?_⟩
  · obtain ⟨h2, h3⟩ := k1 b o h n
    exact k b o h2 h3
  · have ej' : (ρb.ls.set l (as ++ [p]))[j]? = some (b :: bs) := ej
    by_cases hjl : l = j
    · subst hjl
      rw [List.getElem?_set_self hlt] at ej'
      simp only [Option.some.injEq] at ej'
      cases as with
      | nil => simp at hm
      | cons x as =>
        simp only [List.cons_append, List.cons.injEq] at ej'
        obtain ⟨rfl, rfl⟩ := ej'
        obtain ⟨as0, g1, g2⟩ := hd l x as hj h1
        exact ⟨as0, g1, g2.trans (List.prefix_append _ _)⟩
    · rw [List.getElem?_set_ne hjl] at ej'
      exact hd j b bs hj ej'
  · have : b ≠ a := fun e => aex (by rw [← e]; simp [hex, hb])
    rw [upd_ne this]; exact hexk b hb
  · have : ((ρb.ls.set l (as ++ [p])).flatten ++ ρb.ex).Perm (ρb.ls.flatten ++ p :: ρb.ex) := by
      refine (perm.append_right ρb.ex).trans ?_
      simp
    exact this.symm.nodup nd
  · rw [upd_ne (fun e : b = a => aex (by rw [← e]; simp [show b ∈ ρb.ex from hb]))]
    exact r.exd b (by simp [Rho.own, show b ∈ ρb.ex from hb])
  · by_cases hjl : l = j
    · subst hjl
      have hM : l < M.length := (List.getElem?_eq_some_iff.mp e).1
      rw [List.getElem?_set_self hM] at ej
      simp only [Option.some.injEq] at ej; subst ej
      exact ⟨as ++ [p], List.getElem?_set_self hlt, ho _ k fun c hc => upd_ne hc⟩
    · rw [List.getElem?_set_ne hjl] at ej
      obtain ⟨bs, g1, g2⟩ := r.obj j ob ej
      refine ⟨bs, (List.getElem?_set_ne hjl).trans g1, g2.keep k fun b hb => upd_ne fun e => ?_⟩
      subst e
      exact hjl (flat_one (List.nodup_append.mp nd).1 h1 g1 hm hb)
end
end G

set_option Elab.async false
set_option linter.all false
set_option autoImplicit false
set_option maxRecDepth 100000
set_option maxHeartbeats 4000000
/-! Soundness, part U: rules for lists of lists and instances. -/
namespace G
open PySem PySem.Spec PyProof.Rows L2
section
variable {X : Cx} {fa : FW} {XE : XP} {a b c e tg : Expr} {es : List Expr} {pos : Pos} {ea eb ec ee : Sl → Mem → R W} {evs : Sl → Mem → R (List W)}
/-! ### lists of lists -/
theorem innW_is (M : Mem) (w w' : W) : innW M w w' = .bad ∨ ∃ l k dss j, w = .r l ∧ w' = .d (.int k) ∧ M[l]? = some (.lsts dss) ∧ ix dss.length k = some j ∧ innW M w w' = .ok (.rf l j) M := by
  unfold innW
  split
  · split
    · rename_i h
      split
      · rename_i h2
        exact .inr ⟨_, _, _, _, rfl, rfl, h, h2, rfl⟩
      · exact .inl rfl
    · exact .inl rfl
  · exact .inl rfl
def evInn (ea eb : Sl → Mem → R W) : Sl → Mem → R W := fun σ M => (ea σ M).bind fun w M => (eb σ M).bind fun w' M => innW M w w'
theorem r_inn (ha : PE X a (rdE X.K fa XE ea)) (hb : PE X b (rdE X.K fa XE eb)) (hs : PlainIx b) : PE X (.Subscript a b pos) (rdE X.K fa XE (evInn ea eb)) :=
  pe_of (pe_ix ix_list ha hb hs) fun σ H Q ⟨ρ, σ', M, sl, rp, q⟩ => by
    refine ⟨ρ, σ', M, sl, rp, (Post.bind q).mono fun v H1 ⟨w, ρ1, M1, t1, rp1, rl1, q1⟩ => ?_⟩
    refine ⟨ρ1, σ', M1, sl.to t1, rp1, (Post.bind q1).mono fun u H2 ⟨w', ρ2, M2, t2, rp2, rl2, q2⟩ => ?_⟩
    rcases innW_is M2 w w' with h0 | ⟨l, k, dss, j, rfl, rfl, hM, hj, h0⟩
    · rw [h0] at q2; exact q2.elim
    · rw [h0] at q2
      obtain ⟨as, g1, a0, bs, rfl, g2, g3⟩ := rp2.obj l _ hM
      have hl := g3.len
      have hjl : j < bs.length := by
        rw [hl] at hj
        have := ixN_seq (show ixN bs.length k = some j from hj)
        omega
      have rl1' := rl1.to t2
      have ev := rl1'.2 a0 bs g1
      have eu : u = .int k := rl2
      refine ⟨a0, bs.map .ref, k, .ref bs[j], ev, eu, .of g2, ?_, q2.ok rp2 ⟨bs[j], rfl, (List.getElem?_eq_some_iff.mp g1).1, .inr ⟨_, g1, by simp [hjl]⟩⟩⟩
      unfold atI
      have hj' : ixN (bs.map V.ref).length k = some j := by rw [List.length_map, ← hl]; exact hj
      rw [hj']
      simp [hjl]
theorem inn_dp {K : PySem.W.Frag} {m : Addr → Prop} {H : Hp} : ∀ {dss : List (List D)} {bs : List Addr}, (∀ ds ∈ dss, D.okd 49 (.lst ds) = true) → Inn K fa m H dss bs → DpAll K H (bs.map .ref) (toPys (dss.map .lst))
  | [], bs, _, h => by rw [show bs = [] from h]; simp only [List.map_nil, toPys]; exact .nil
  | ds :: dss, bs, hk, h => by
    obtain ⟨b, r, vs, rfl, h1, h2, h3⟩ := h
    simp only [List.map_cons, toPys, toPy]
    have hd := hk ds (by simp)
    exact .cons (.lst (.of h1) (Rls.dp (n := 48) (by simpa [D.okd] using hd) h2)) (inn_dp (fun d hd => hk d (by simp [hd])) h3)
/-- a != [] -/
def evNn (ea : Sl → Mem → R W) : Sl → Mem → R W := fun σ M => (ea σ M).bind fun w M => nnilW M w
theorem t_nnil {σ : StV} {H : Hp} {Q : VK} (q : rdE X.K fa XE (evNn ea) σ H Q) : tOp (rNeD X.K) (rdE X.K fa XE ea) (rdE X.K fa XE fun _ M => .ok (.d (.lst [])) M) σ H Q := by
    obtain ⟨ρ, σ', M, sl, rp, q⟩ := q
    refine ⟨ρ, σ', M, sl, rp, (Post.bind q).mono fun v H1 ⟨w, ρ1, M1, t1, rp1, rl1, q1⟩ => ?_⟩
    refine ⟨ρ1, σ', M1, sl.to t1, rp1, fun ρ2 H2 u t2 rp2 rl2 => ?_⟩
    have q2 := q1.from t2
    unfold nnilW at q2
    split at q2
    · rename_i l
      split at q2
      · rename_i dss hM
        split at q2
        · rename_i hdat
          obtain ⟨as, g1, a0, bs, rfl, g2, g3⟩ := rp2.obj l _ hM
          have ev := (rl1.to t2).2 a0 bs g1
          have hk : ∀ ds ∈ dss, D.okd 49 (.lst ds) = true := by
            simp only [D.dat, D.okd, List.all_map, List.all_eq_true, Function.comp] at hdat
            exact fun ds hd => by simpa [D.okd] using hdat ds hd
          have d1 : Dp X.K H2 v (toPy (.lst (dss.map .lst))) := by
            subst ev
            simp only [toPy]
            exact .lst (.of g2) (inn_dp hk g3)
          have d2 : Dp X.K H2 u (toPy (.lst [])) := Rl.dp (fa := fa) (m := mu ρ2) (n := 1) (by simp [D.okd]) rl2
          refine ⟨_, _, d1, d2, shaped_of hdat, shaped_of (d := .lst []) rfl, ?_⟩
          rw [eqv_py _ _ (noE_of hdat) (by simp [D.noE, D.noEs])]
          have ee : D.eqv (.lst (dss.map .lst)) (.lst []) = dss.isEmpty := by
            simp only [D.eqv]
            cases dss <;> simp [D.eqvs]
          rw [ee]
          exact q2.ok rp2 (by simp [RlW, Rl])
        · exact q2.elim
      · exact q2.elim
    · exact q2.elim
theorem r_nnil (hu : X.A.units + 65 < cLine) (ha : PE X a (rdE X.K fa XE ea)) (hb : PE X b (rdE X.K fa XE fun _ M => .ok (.d (.lst [])) M)) (hm : behindInMarks .NotEq b = false) : PE X (.Compare a [.NotEq] [b] pos) (rdE X.K fa XE (evNn ea)) :=
  pe_of (pe_cmpR (op_neD (by omega)) ha hb hm) fun _ _ _ q => t_nnil q
theorem r_nnilT (hu : X.A.units + 65 < cLine) (ha : PE X a (rdE X.K fa XE ea)) (hb : PE X b (rdE X.K fa XE fun _ M => .ok (.d (.lst [])) M)) (hm : behindInMarks .NotEq b = false) : PT X (.Compare a [.NotEq] [b] pos) (rdT X.K fa XE (evNn ea)) :=
  pt_of (pt_cmpR (op_neD (by omega)) ha hb hm) fun _ _ _ q => t_nnil (t_test q)
/-- a.append([..]), a a list of lists -/
def evAppN (ea ee : Sl → Mem → R W) : Sl → Mem → R W := fun σ M => (ea σ M).bind fun w M => if lssW M w then (ee σ M).bind fun w' M2 => appNW M.length M2 w w' else .bad
theorem appNW_is (n : Nat) (M : Mem) (w w' : W) : appNW n M w w' = .bad ∨ ∃ l ds dss, w = .r l ∧ newL n M w' = some ds ∧ M[l]? = some (.lsts dss) ∧ dss.length < line ∧ appNW n M w w' = .ok (.d .non) ((M.take (M.length - 1)).set l (.lsts (dss ++ [ds]))) := by
  cases w with
  | r l =>
    simp only [appNW]
    cases h : newL n M w' with
    | none => exact .inl rfl
    | some ds =>
      simp only
      split
      · rename_i dss h2
        split
        · rename_i h3
          exact .inr ⟨_, _, _, rfl, rfl, h2, h3, rfl⟩
        · exact .inl rfl
      · exact .inl rfl
  | d x => exact .inl rfl
  | rf l f => exact .inl rfl
theorem lssW_is {M : Mem} {w : W} (h : lssW M w = true) : ∃ l dss, w = .r l ∧ M[l]? = some (.lsts dss) := by
  unfold lssW at h
  split at h
  · split at h
    · rename_i h2; exact ⟨_, _, rfl, h2⟩
    · cases h
  · cases h
theorem r_appN {apos cpos : Pos} (ho : PE X a (rdE X.K fa XE ea)) (he : PE X e (rdE X.K fa XE ee)) (hs : starEach [e] X.env = (false, eval e X.env) :: starEach [] X.env) (hbase : attributeBase a "append" X.env (eval a X.env) = eval a X.env) (hline : (apos.endLine == cpos.line) = true)
    (hfew : ((backTo cpos (starEach [e] X.env)).all (fun x => !x.1) && (backToKw cpos (keywordEach [] X.env)).all (fun x => x.1.isSome) && decide (([e] : List Expr).length + ([] : List Keyword).length + (if ([] : List Keyword).isEmpty then 0 else 1) < 30)) = true) :
    PE X (.Call (.Attribute a "append" apos) [e] [] cpos) (rdE X.K fa XE (evAppN ea ee)) :=
  pe_of (pe_bm PySem.F.plainAttrs_list PySem.F.slot_list_append PySem.F.type_list_append mt_append ho (pa_cons he pa_nil hs) hbase hfew hline hs rfl) fun σ H Q ⟨ρ, σ', M, sl, rp, q⟩ => by
    refine ⟨ρ, σ', M, sl, rp, (Post.bind q).mono fun v H1 ⟨w, ρ1, M1, t1, rp1, rl1, q1⟩ => ?_⟩
    split at q1
    · rename_i hls
      obtain ⟨l, dss0, rfl, hM1⟩ := lssW_is hls
      obtain ⟨as, g1, a0, bs0, rfl, g2, g3⟩ := rp1.obj l _ hM1
      have ev := rl1.2 a0 bs0 g1
      subst ev
      refine ⟨.inl ⟨rfl, bs0.map .ref, .of g2⟩, ρ1, σ', M1, sl.to t1, rp1, ?_⟩
      cases hee : ee σ' M1 with
      | bad => rw [hee] at q1; exact q1
      | exc c M2 => rw [hee] at q1; exact q1
      | ok w' M2 =>
        rw [hee] at q1
        have q1' : Post X.K fa XE ρ1 H1 (appNW M1.length M2 (.r l) w') (RlW X.K fa) Q := q1
        intro ρ2 H2 u t2 rp2 rl2
        rcases appNW_is M1.length M2 (.r l) w' with h0 | ⟨l', ds, dss, el, hnew, hM, hlt, h0⟩
        · rw [h0] at q1'; exact q1'.elim
        · cases el
          rw [h0] at q1'
          obtain ⟨Mb, eM, hn, ew⟩ := newL_some hnew
          subst eM ew
          have hlM : l < M1.length := (List.getElem?_eq_some_iff.mp hM1).1
          have hMb : Mb[l]? = some (.lsts dss) := by rw [List.getElem?_append_left (by omega)] at hM; exact hM
          obtain ⟨p, vs, ρb, eu, e2, hp, rls, rpb, kp, hl1, hd, hex, hexk⟩ := rp2.unlay t2 (by rw [rp1.len]; exact hn) rl2
          obtain ⟨as, k1, a1, bs, rfl, k2, k3⟩ := rpb.obj l _ hMb
          have k1' : ρb.ls[l]? = some (a1 :: bs) := k1
          have ea1 : a1 = a0 := by
            obtain ⟨as0, f1, _⟩ := hd l a1 bs (by rw [rp1.len]; exact hlM) k1'
            rw [g1] at f1; cases f1; rfl
          subst ea1
          have hne : ∀ c ∈ bs, c ≠ a1 := fun c hc => by
            have nd := rpb.asNd k1
            rw [List.nodup_cons] at nd
            exact fun e => nd.1 (e ▸ hc)
          have hpa : p ≠ a1 := fun e => by
            have nd := rpb.nd
            simp only [Rho.own] at nd
            exact (List.nodup_append.mp nd).2.2 a1 (List.mem_flatten.mpr ⟨_, List.mem_of_getElem? k1', by simp⟩) p (by simp) e.symm
          obtain ⟨T, RP⟩ := rpb.grow (u := .lst (bs.map .ref ++ [.ref p])) (o' := .lsts (dss ++ [ds])) kp hl1 hd hex hexk hMb k1' (a := a1) (by simp) fun m k hk => by
            refine ⟨a1, bs ++ [p], by simp, ?_, ?_⟩
            · rw [upd_same]; simp
            · exact Inn.app (by rw [upd_ne hpa]; exact hp) (rls.keep k) (k3.keep k fun c hc => hk c (hne c hc))
          have et : (Mb ++ [O.lst ds]).take ((Mb ++ [O.lst ds]).length - 1) = Mb := by simp
          rw [et] at q1'
          exact ⟨a1, bs.map .ref, .ref p, rfl, by rw [eu], k2, by rw [List.length_map, ← k3.len]; exact line_lt hlt, q1' _ _ _ T RP (by simp [RlW, Rl])⟩
    · exact q1.elim
end
end G

set_option Elab.async false
set_option linter.all false
set_option autoImplicit false
set_option maxRecDepth 100000
set_option maxHeartbeats 4000000
/-! Soundness, part V: rules for instances. -/
namespace G
open PySem PySem.Spec PyProof.Rows L2
section
variable {X : Cx} {fa : FW} {XE : XP} {a b c e tg : Expr} {es : List Expr} {pos : Pos} {ea eb ec ee : Sl → Mem → R W} {evs : Sl → Mem → R (List W)}
theorem rows_ne : ((Str.ofString "rows") == (Str.ofString "spec")) = false := by decide +kernel
/-! ### attributes -/
theorem fspW_is (M : Mem) (w : W) : fspW M w = .bad ∨ ∃ l sp, w = .r l ∧ (M[l]? = some (.ins1 sp) ∨ ∃ ds, M[l]? = some (.ins sp ds)) ∧ fspW M w = .ok (.d sp) M := by
  unfold fspW
  split
  · split
    · rename_i h; exact .inr ⟨_, _, rfl, .inl h, rfl⟩
    · rename_i h; exact .inr ⟨_, _, rfl, .inr ⟨_, h⟩, rfl⟩
    · exact .inl rfl
  · exact .inl rfl
def evFsp (ea : Sl → Mem → R W) : Sl → Mem → R W := fun σ M => (ea σ M).bind fun w M => fspW M w
theorem r_fsp (hc : Cls X.K fa.c) (hn : NoAttr X.K fa.c "spec") (ha : PE X a (rdE X.K fa XE ea)) (hb : attributeBase a "spec" X.env (eval a X.env) = eval a X.env) : PE X (.Attribute a "spec" pos) (rdE X.K fa XE (evFsp ea)) :=
  pe_of (pe_fld ha hb) fun σ H Q ⟨ρ, σ', M, sl, rp, q⟩ => by
    refine ⟨ρ, σ', M, sl, rp, (Post.bind q).mono fun v H1 ⟨w, ρ1, M1, t1, rp1, rl1, q1⟩ => ?_⟩
    rcases fspW_is M1 w with h0 | ⟨l, sp, rfl, hM, h0⟩
    · rw [h0] at q1; exact q1.elim
    · rw [h0] at q1
      rcases hM with hM | ⟨ds, hM⟩
      · obtain ⟨as, g1, a0, dx, u, rfl, g2, g3⟩ := rp1.obj l _ hM
        exact ⟨a0, fa.c, dx, _, u, rl1.2 a0 [] g1, g2, hc, hn, List.lookup_cons_self, q1.ok rp1 g3⟩
      · obtain ⟨as, g1, a0, b0, dx, u, vs, rfl, g2, g3, g4, g5⟩ := rp1.obj l _ hM
        exact ⟨a0, fa.c, dx, _, u, rl1.2 a0 [b0] g1, g2, hc, hn, List.lookup_cons_self, q1.ok rp1 g3⟩
theorem frwW_is (M : Mem) (w : W) : frwW M w = .bad ∨ ∃ l sp ds, w = .r l ∧ M[l]? = some (.ins sp ds) ∧ frwW M w = .ok (.rf l 0) M := by
  unfold frwW
  split
  · split
    · rename_i h; exact .inr ⟨_, _, _, rfl, h, rfl⟩
    · exact .inl rfl
  · exact .inl rfl
def evFrw (ea : Sl → Mem → R W) : Sl → Mem → R W := fun σ M => (ea σ M).bind fun w M => frwW M w
theorem r_frw (hc : Cls X.K fa.c) (hn : NoAttr X.K fa.c "rows") (ha : PE X a (rdE X.K fa XE ea)) (hb : attributeBase a "rows" X.env (eval a X.env) = eval a X.env) : PE X (.Attribute a "rows" pos) (rdE X.K fa XE (evFrw ea)) :=
  pe_of (pe_fld ha hb) fun σ H Q ⟨ρ, σ', M, sl, rp, q⟩ => by
    refine ⟨ρ, σ', M, sl, rp, (Post.bind q).mono fun v H1 ⟨w, ρ1, M1, t1, rp1, rl1, q1⟩ => ?_⟩
    rcases frwW_is M1 w with h0 | ⟨l, sp, ds, rfl, hM, h0⟩
    · rw [h0] at q1; exact q1.elim
    · rw [h0] at q1
      obtain ⟨as, g1, a0, b0, dx, u, vs, rfl, g2, g3, g4, g5⟩ := rp1.obj l _ hM
      refine ⟨a0, fa.c, dx, _, .ref b0, rl1.2 a0 [b0] g1, g2, hc, hn, ?_, q1.ok rp1 ⟨b0, rfl, (List.getElem?_eq_some_iff.mp g1).1, .inr ⟨_, g1, rfl⟩⟩⟩
      rw [List.lookup_cons, rows_ne]
      exact List.lookup_cons_self
/-! ### self.spec = e -/
theorem setSpW_is {x : D} {M M' : Mem} {w : W} (h : setSpW x M w = some M') : ∃ l, w = .r l ∧ M[l]? = some .ins0 ∧ M' = M.set l (.ins1 x) := by
  unfold setSpW at h
  split at h
  · split at h
    · rename_i h2; cases h; exact ⟨_, rfl, h2, rfl⟩
    · cases h
  · cases h
def evSetSp (ea ee : Sl → Mem → R W) : Sl → Mem → Out := fun σ M => (ee σ M).out fun w M => match w with
    | .d x => (ea σ M).out fun wa M => ofOut (setSpW x M wa) fun M => .nx σ M
    | _ => .bad
theorem s_setSp {p2 : Pos} (hc : Cls X.K fa.c) (hn : NoAttr X.K fa.c "spec") (ha : PE X a (rdE X.K fa XE ea)) (he : PE X e (rdE X.K fa XE ee)) (hs : swapsWith e (some (.Attribute a "spec" p2)) pos.line X.env = pure false) :
    PS X (.Assign [.Attribute a "spec" p2] e pos) (rdS X.K fa XE (evSetSp ea ee)) :=
  ps_of (ps_fld ha he hs) fun D σ H ⟨ρ, σ', M, sl, rp, q⟩ => by
    refine ⟨ρ, σ', M, sl, rp, (PostS.out q).mono fun v H1 ⟨w, ρ1, M1, t1, rp1, rl1, q1⟩ => ?_⟩
    cases w with
    | d x =>
      refine ⟨ρ1, σ', M1, sl.to t1, rp1, (PostS.out q1).mono fun u H2 ⟨wa, ρ2, M2, t2, rp2, rl2, q2⟩ => ?_⟩
      obtain ⟨M3, e3, q3⟩ := PostS.of q2
      obtain ⟨l, rfl, hM, rfl⟩ := setSpW_is e3
      obtain ⟨as, g1, a0, dx, rfl, g2⟩ := rp2.obj l _ hM
      have rx := rl1.to t2
      obtain ⟨t3, rp3⟩ := rp2.changeO (o' := .ins1 x) (u := .ins fa.c dx [("spec", v)]) hM g1 fun k => ⟨a0, dx, v, rfl, upd_same, Rl.keep k rx⟩
      exact ⟨a0, fa.c, dx, [], rl2.2 a0 [] g1, g2, hc, hn, by simp, q3 _ _ _ t3 rp3 ((sl.to t1).to t2 |>.to t3)⟩
    | _ => exact q1.elim
/-! ### self.rows = e -/
theorem setRwW_is {n : Nat} {M : Mem} {w w' : W} {p : W × Mem} (h : setRwW n M w w' = some p) : (∃ l sp ds, w = .r l ∧ newL n M w' = some ds ∧ M[l]? = some (.ins1 sp) ∧ p = (.r l, (M.take (M.length - 1)).set l (.ins sp ds))) ∨
    ∃ l sp old ds, w = .r l ∧ newL n M w' = some ds ∧ M[l]? = some (.ins sp old) ∧ p = (.r (M.length - 1), (M.set l .dead).set (M.length - 1) (.ins sp ds)) := by
  cases w with
  | r l =>
    simp only [setRwW] at h
    cases hn : newL n M w' with
    | none => rw [hn] at h; cases h
    | some ds =>
      rw [hn] at h
      simp only at h
      split at h
      · rename_i h2; cases h; exact .inl ⟨_, _, _, rfl, rfl, h2, rfl⟩
      · rename_i h2; cases h; exact .inr ⟨_, _, _, _, rfl, rfl, h2, rfl⟩
      · cases h
  | d x => cases h
  | rf l f => cases h
theorem flat_set : ∀ {ls : List (List Addr)} {l : Nat} {as : List Addr}, ls[l]? = some as → ∃ A B, ls.flatten = A ++ (as ++ B) ∧ (ls.set l []).flatten = A ++ B
  | [], _, _, h => by simp at h
  | x :: ls, 0, as, h => by
    simp only [List.getElem?_cons_zero, Option.some.injEq] at h; subst h
    exact ⟨[], ls.flatten, by simp, by simp⟩
  | x :: ls, l + 1, as, h => by
    simp only [List.getElem?_cons_succ] at h
    obtain ⟨A, B, h1, h2⟩ := flat_set h
    exact ⟨x ++ A, B, by simp [h1], by simp [h2]⟩
/-- an instance takes another list; it has a new place in the memory -/
theorem Rep.move {K : PySem.W.Frag} {fa : FW} {ρ1 : Rho} {H1 H : Hp} {Mb : Mem} {ls : List (List Addr)} {ex : List Addr} {p a0 b0 dx : Addr} {l : Nat} {sp : D} {old ds : List D} {u0 : V} {vs : List V} (r : Rep K fa ⟨ls ++ [[p]], ex⟩ H (Mb ++ [.lst ds])) (t : To ρ1 H1 ⟨ls ++ [[p]], ex⟩ H) (hn : ρ1.ls.length ≤ Mb.length)
    (e : Mb[l]? = some (.ins sp old)) (h1 : ls[l]? = some [a0, b0]) (hlen : ls.length = Mb.length) (hu : Rl K fa (mu ⟨ls ++ [[p]], ex⟩) H sp u0) (hp : H p = some (.lst vs)) (hvs : Rls K fa (mu ⟨ls ++ [[p]], ex⟩) H ds vs) :
    To ρ1 H1 ⟨ls.set l [] ++ [[a0, p]], ex⟩ (upd H a0 (.ins fa.c dx [("spec", u0), ("rows", .ref p)])) ∧ Rep K fa ⟨ls.set l [] ++ [[a0, p]], ex⟩ (upd H a0 (.ins fa.c dx [("spec", u0), ("rows", .ref p)])) (Mb.set l .dead ++ [.ins sp ds]) := by
  have hlt : l < ls.length := (List.getElem?_eq_some_iff.mp h1).1
  obtain ⟨A, B, f1, f2⟩ := flat_set h1
  have nd := r.nd
  have ma0 : mu ⟨ls ++ [[p]], ex⟩ a0 := .inl (by simp [f1])
  have hpa : p ≠ a0 := fun z => by
    simp only [List.flatten_append, f1, List.flatten_cons, List.flatten_nil, List.append_nil, List.append_assoc] at nd
    have h2 := (List.nodup_append.mp nd).2.1
    simp only [List.cons_append, List.nil_append, List.nodup_cons, List.mem_cons, List.mem_append] at h2
    exact h2.1 (.inr (.inr (.inl z.symm)))
  have sub : ∀ a, mu ⟨ls.set l [] ++ [[a0, p]], ex⟩ a → mu ⟨ls ++ [[p]], ex⟩ a := fun a h => by
    rcases h with h | h
    · simp only [List.flatten_append, f2, List.flatten_cons, List.flatten_nil, List.append_nil, List.mem_append, List.mem_cons, List.not_mem_nil, or_false] at h
      refine .inl ?_
      simp only [List.flatten_append, f1, List.flatten_cons, List.flatten_nil, List.append_nil, List.mem_append, List.mem_cons, List.not_mem_nil, or_false]
      rcases h with (h | h) | h | h
      · exact .inl (.inl h)
      · exact .inl (.inr (.inr h))
      · exact .inl (.inr (.inl (.inl h)))
      · exact .inr h
    · exact .inr h
  have k : Kp (mu ⟨ls ++ [[p]], ex⟩) (mu ⟨ls.set l [] ++ [[a0, p]], ex⟩) H (upd H a0 (.ins fa.c dx [("spec", u0), ("rows", .ref p)])) := fun a o h n => by
    have hne : a ≠ a0 := fun z => n (z ▸ ma0)
    exact ⟨by rw [upd_ne hne]; exact h, fun z => n (sub a z)⟩
  refine ⟨⟨fun a o h n => ?_, ?_, fun l' a as hl' h => ?_, t.ex, fun a ha => ?_⟩, ?_, ?_, fun a ha => ?_, fun l' o h => ?_⟩
  · obtain ⟨g1, g2⟩ := t.keep a o h n
    exact k a o g1 g2
  · simp; omega
  · have hl2 : l' < ls.length := by omega
    by_cases hq : l = l'
    · subst hq
      rw [List.getElem?_append_left (by simpa using hl2), List.getElem?_set_self hl2] at h
      cases h
    · rw [List.getElem?_append_left (by simpa using hl2), List.getElem?_set_ne hq] at h
      exact t.head l' a as hl' (by show (ls ++ [[p]])[l']? = _; rw [List.getElem?_append_left hl2]; exact h)
  · have hne : a ≠ a0 := fun z => by
      have e2 : ex = ρ1.ex := t.ex
      rw [← e2] at ha
      exact (List.nodup_append.mp nd).2.2 a0 (by simp [f1]) a ha z.symm
    rw [upd_ne hne]; exact t.exk a ha
  · simp [hlen]
  · have nd2 : (A ++ ([a0, b0] ++ B) ++ [p] ++ ex).Nodup := by simpa [f1] using nd
    have sb : (A ++ ([a0] ++ B) ++ [p] ++ ex).Sublist (A ++ ([a0, b0] ++ B) ++ [p] ++ ex) :=
      ((((List.Sublist.refl A).append (show ([a0] ++ B).Sublist ([a0, b0] ++ B) from ((List.sublist_append_left [a0] [b0]).append (List.Sublist.refl B))))).append (List.Sublist.refl [p])).append (List.Sublist.refl ex)
    have nd3 := nd2.sublist sb
    have pm : (A ++ ([a0] ++ B) ++ [p] ++ ex).Perm ((ls.set l [] ++ [[a0, p]]).flatten ++ ex) := by
      simp only [List.flatten_append, f2, List.flatten_cons, List.flatten_nil, List.append_nil]
      refine List.Perm.append_right ex ?_
      simp only [List.append_assoc]
      refine List.Perm.append_left A ?_
      have : ([a0] ++ B ++ [p]).Perm (B ++ [a0] ++ [p]) := List.Perm.append_right [p] List.perm_append_comm
      simpa using this
    exact (pm.nodup_iff).mp nd3
  · by_cases hq : a = a0
    · rw [hq, upd_same]; simp
    · rw [upd_ne hq]; exact r.exd a ha
  · have hMl : (Mb.set l .dead).length = Mb.length := by simp
    by_cases hq : l' < Mb.length
    · rw [List.getElem?_append_left (by simpa using hq)] at h
      have hq2 : l' < ls.length := by omega
      by_cases hl2 : l = l'
      · subst hl2
        rw [List.getElem?_set_self hq] at h
        cases h
        exact ⟨[], by show (ls.set l [] ++ [[a0, p]])[l]? = _; rw [List.getElem?_append_left (by simpa using hq2), List.getElem?_set_self hq2], rfl⟩
      · rw [List.getElem?_set_ne hl2] at h
        obtain ⟨as, g1, g2⟩ := r.obj l' o (by rw [List.getElem?_append_left hq]; exact h)
        have g1' : ls[l']? = some as := by
          have : (ls ++ [[p]])[l']? = some as := g1
          rw [List.getElem?_append_left hq2] at this; exact this
        refine ⟨as, by show (ls.set l [] ++ [[a0, p]])[l']? = _; rw [List.getElem?_append_left (by simpa using hq2), List.getElem?_set_ne hl2]; exact g1', g2.keep k fun a ha => upd_ne fun z => ?_⟩
        have ndl : (ls ++ [[p]]).flatten.Nodup := (List.nodup_append.mp nd).1
        exact hl2 (flat_one ndl (by rw [List.getElem?_append_left hlt]; exact h1) g1 (a := a0) (by simp) (z ▸ ha))
    · have e3 : l' = Mb.length := by
        have := (List.getElem?_eq_some_iff.mp h).1
        simp at this; omega
      subst e3
      rw [List.getElem?_append_right (by simp)] at h
      simp at h
      subst h
      refine ⟨[a0, p], by show (ls.set l [] ++ [[a0, p]])[Mb.length]? = _; rw [List.getElem?_append_right (by simp [hlen])]; simp [hlen], a0, p, dx, u0, vs, rfl, upd_same, Rl.keep k hu, by rw [upd_ne hpa]; exact hp, hvs.keep k⟩
def evSetRw (i : Nat) (ee : Sl → Mem → R W) : Sl → Mem → Out := fun σ M => (ee σ M).out fun w M1 => match σ[i]? with
    | some (some wa) => ofOut (setRwW M.length M1 wa w) fun p => .nx (σ.put i p.1) p.2
    | _ => .bad
theorem s_setRw {i : Nat} {p2 : Pos} (hc : Cls X.K fa.c) (hn : NoAttr X.K fa.c "rows") (ha : PE X a (rdE X.K fa XE fun σ M => match σ[i]? with | some (some w) => .ok w M | _ => .bad)) (he : PE X e (rdE X.K fa XE ee)) (hs : swapsWith e (some (.Attribute a "rows" p2)) pos.line X.env = pure false) :
    PS X (.Assign [.Attribute a "rows" p2] e pos) (rdS X.K fa XE (evSetRw i ee)) :=
  ps_of (ps_fld ha he hs) fun D σ H ⟨ρ, σ', M, sl, rp, q⟩ => by
    refine ⟨ρ, σ', M, sl, rp, ?_⟩
    simp only [evSetRw] at q
    cases hee : ee σ' M with
    | bad => rw [hee] at q; exact q
    | exc c M2 => rw [hee] at q; exact q
    | ok w M1 =>
      rw [hee] at q
      intro ρ1 H1 v t1 rp1 rl1
      simp only [R.out] at q
      cases hi : σ'[i]? with
      | none => rw [hi] at q; exact q.elim
      | some o =>
        cases o with
        | none => rw [hi] at q; exact q.elim
        | some wa =>
          rw [hi] at q
          refine ⟨ρ1, σ', M1, sl.to t1, rp1, ?_⟩
          simp only [hi]
          intro ρ2 H2 u t2 rp2 rl2
          obtain ⟨pr, e3, q3⟩ := PostS.of q
          rcases setRwW_is e3 with ⟨l, sp, ds, rfl, hnew, hM, rfl⟩ | ⟨l, sp, old, ds, rfl, hnew, hM, rfl⟩
          rotate_left
          · obtain ⟨Mb, eM, hn0, ew⟩ := newL_some hnew
            subst eM ew
            have hlb : l < Mb.length := by
              have h1 := (List.getElem?_eq_some_iff.mp hM).1
              simp only [List.length_append, List.length_singleton] at h1
              by_cases h2 : l < Mb.length
              · exact h2
              · have : l = Mb.length := by omega
                subst this; simp at hM
            have hMb : Mb[l]? = some (.ins sp old) := by rw [List.getElem?_append_left hlb] at hM; exact hM
            obtain ⟨p, vs, ρb, eu, e2, hp, rls, rpb, kp, hl1, hd, hex, hexk⟩ := rp2.unlay (t1.trans t2) (by rw [rp.len]; exact hn0) (rl1.to t2)
            have hlenb : ρb.ls.length = Mb.length := rpb.len
            subst e2
            obtain ⟨as, k1, a0, b0, dx, u0, vs0, rfl, k2, k3, k4, k5⟩ := rp2.obj l _ hM
            have k1' : ρb.ls[l]? = some [a0, b0] := by
              have : (ρb.ls ++ [[p]])[l]? = some [a0, b0] := k1
              rw [List.getElem?_append_left (by omega)] at this; exact this
            obtain ⟨as2, m1, p', vs', rfl, m2, m3⟩ := rp2.obj Mb.length (.lst ds) (by simp)
            have ep : p' = p := by
              have : (ρb.ls ++ [[p]])[Mb.length]? = some [p'] := m1
              rw [List.getElem?_append_right (by omega)] at this
              simp [hlenb] at this; exact this.symm
            subst ep
            have ev : u = .ref a0 := rl2.2 a0 [b0] k1
            obtain ⟨T, RP⟩ := Rep.move (dx := dx) rp2 (t1.trans t2) (by rw [rp.len]; exact hn0) hMb k1' hlenb k3 m2 m3
            have et : ((Mb ++ [O.lst ds]).set l .dead).set ((Mb ++ [O.lst ds]).length - 1) (.ins sp ds) = Mb.set l .dead ++ [.ins sp ds] := by
              rw [List.set_append_left _ _ hlb, show (Mb ++ [O.lst ds]).length - 1 = (Mb.set l .dead).length + 0 by simp, List.set_append_right _ _ (by omega)]
              simp
            have en : (Mb ++ [O.lst ds]).length - 1 = Mb.length := by simp
            rw [et, en] at q3
            refine ⟨a0, fa.c, dx, [("spec", u0), ("rows", .ref b0)], ev, k2, hc, hn, by simp, ?_⟩
            have ef : L2.putF "rows" v [(("spec" : Str), u0), ("rows", .ref b0)] = ([("spec", u0), ("rows", .ref p')] : List (Str × V)) := by
              rw [eu]
              have : ¬ (("spec" : Str) = "rows") := by decide +kernel
              simp [L2.putF, this]
            rw [ef]
            refine q3 _ _ _ T RP ⟨by simp only [Sl.put, List.length_set]; exact sl.1, fun j w2 hj => ?_⟩
            by_cases hij : i = j
            · subst hij
              simp only [Sl.put] at hj
              rw [List.getElem?_set_self (List.getElem?_eq_some_iff.mp hi).1] at hj
              simp only [Option.some.injEq] at hj; subst hj
              obtain ⟨v0, hv0, rv0⟩ := sl.2 i _ hi
              have rv1 := (rv0.to t1).to t2
              have e0 : v0 = .ref a0 := rv1.2 a0 [b0] k1
              subst e0
              refine ⟨_, hv0, ?_, fun a as z => ?_⟩
              · simp [hlenb]
              · have : (ρb.ls.set l [] ++ [[a0, p']])[Mb.length]? = some (a :: as) := z
                rw [List.getElem?_append_right (by simp [hlenb])] at this
                simp [hlenb] at this
                rw [this.1]
            · simp only [Sl.put] at hj
              rw [List.getElem?_set_ne hij] at hj
              obtain ⟨v0, hv0, rv0⟩ := sl.2 j _ hj
              exact ⟨v0, hv0, rv0.to T⟩
          obtain ⟨Mb, eM, hn0, ew⟩ := newL_some hnew
          subst eM ew
          have hlb : l < Mb.length := by
            have h1 := (List.getElem?_eq_some_iff.mp hM).1
            simp only [List.length_append, List.length_singleton] at h1
            by_cases h2 : l < Mb.length
            · exact h2
            · have : l = Mb.length := by omega
              subst this; simp at hM
          have hMb : Mb[l]? = some (.ins1 sp) := by rw [List.getElem?_append_left hlb] at hM; exact hM
          obtain ⟨p, vs, ρb, eu, e2, hp, rls, rpb, kp, hl1, hd, hex, hexk⟩ := rp2.unlay (t1.trans t2) (by rw [rp.len]; exact hn0) (rl1.to t2)
          obtain ⟨as, k1, a0, dx, u0, rfl, k2, k3⟩ := rpb.obj l _ hMb
          have k1' : ρb.ls[l]? = some [a0] := k1
          have hpa : p ≠ a0 := fun e => by
            have nd := rpb.nd
            simp only [Rho.own] at nd
            exact (List.nodup_append.mp nd).2.2 a0 (List.mem_flatten.mpr ⟨_, List.mem_of_getElem? k1', by simp⟩) p (by simp) e.symm
          have ev : u = .ref a0 := rl2.2 a0 [] (by rw [e2]; show (ρb.ls ++ [[p]])[l]? = _; rw [List.getElem?_append_left (List.getElem?_eq_some_iff.mp k1').1]; exact k1')
          obtain ⟨T, RP⟩ := rpb.grow (u := .ins fa.c dx [("spec", u0), ("rows", .ref p)]) (o' := .ins sp ds) kp hl1 hd hex hexk hMb k1' (a := a0) (by simp) fun m k hk =>
            ⟨a0, p, dx, u0, vs, rfl, upd_same, Rl.keep k k3, by rw [upd_ne hpa]; exact hp, rls.keep k⟩
          have et : (Mb ++ [O.lst ds]).take ((Mb ++ [O.lst ds]).length - 1) = Mb := by simp
          simp only [et] at q3
          have hput : σ'.put i (.r l) = σ' := by
            simp only [Sl.put]
            refine List.ext_getElem? fun j => ?_
            by_cases hj : i = j
            · subst hj
              rw [List.getElem?_set_self (List.getElem?_eq_some_iff.mp hi).1, hi]
            · rw [List.getElem?_set_ne hj]
          rw [hput] at q3
          refine ⟨a0, fa.c, dx, [("spec", u0)], ev, k2, hc, hn, by simp, ?_⟩
          have ef : L2.putF "rows" v [(("spec" : Str), u0)] = ([("spec", u0), ("rows", .ref p)] : List (Str × V)) := by
            rw [eu]
            have : ¬ (("spec" : Str) = "rows") := by decide +kernel
            simp [L2.putF, this]
          rw [ef]
          exact q3 _ _ _ T RP (sl.to T)
/-! ### methods -/
theorem meth_eq {o : Expr} {m : Str} {apos pos : Pos} {env : Env} (hbase : attributeBase o m env (eval o env) = eval o env) (hline : (apos.endLine == pos.line) = true)
    (hfew : ((backTo pos (starEach es env)).all (fun x => !x.1) && (backToKw pos (keywordEach [] env)).all (fun x => x.1.isSome) && decide (es.length + ([] : List Keyword).length + (if ([] : List Keyword).isEmpty then 0 else 1) < 30)) = true) :
    eval (.Call (.Attribute o m apos) es [] pos) env = (do
      let ov ← eval o env
      standAt apos.atName
      let (f, first) ← holding [ov] (getMethod ov m (do return (← importBound o env).getD true))
      callWith pos f first (backTo pos (starEach es env)) (backToKw pos (keywordEach [] env))) := by
  rw [arm_eval_Call, hbase]
  have hform : methodCallForm (es.length + ([] : List Keyword).length) (backTo pos (starEach es env)) (backToKw pos (keywordEach [] env)) = true := hfew
  have hpos : methodCallPos true o env apos pos = pure pos := by unfold methodCallPos; simp [hline]
  unfold methodCall
  rw [hform, hpos]
  simp only [calleeOf, if_true, pure_bind]
theorem sp_of {ex : Nat → Addr} {T : Nat → Option Fn} {k f : Nat} {ρ : Rho} {H : Hp} {M : Mem} {ws : List W} {vs : List V} {Q : VK} (rl : RlWs X.K fa ρ H ws vs) (rp : Rep X.K fa ρ H M) (q : Post X.K fa XE ρ H (call T k f ws M) (RlW X.K fa) Q) : spF X.K fa ex T k f vs H Q (EK ex XE) := by
  refine ⟨ρ, ws, M, rl, rp, ?_⟩
  revert q
  cases call T k f ws M with
  | ok w M2 => exact fun q1 => q1
  | exc c M2 => exact fun q1 ρ2 H2 t2 rp2 => ⟨c, rfl, rfl, q1 ρ2 H2 t2 rp2⟩
  | bad => exact fun q1 => q1
theorem insW_ob {ρ : Rho} {H : Hp} {M : Mem} {w : W} {v : V} (rp : Rep X.K fa ρ H M) (rl : RlW X.K fa ρ H w v) (h : insW M w = true) : ∃ a dx fs, v = .ref a ∧ H a = some (.ins fa.c dx fs) ∧ ∀ m : Str, m ≠ "spec" → m ≠ "rows" → fs.lookup m = none := by
  unfold insW at h
  split at h
  · split at h
    · rename_i hM
      obtain ⟨as, g1, a0, dx, rfl, g2⟩ := rp.obj _ _ hM
      exact ⟨a0, dx, [], rl.2 a0 [] g1, g2, fun _ _ _ => rfl⟩
    · rename_i hM
      obtain ⟨as, g1, a0, dx, u, rfl, g2, g3⟩ := rp.obj _ _ hM
      exact ⟨a0, dx, _, rl.2 a0 [] g1, g2, fun m h1 h2 => by rw [List.lookup_cons, beq_eq_false_iff_ne.mpr h1]; rfl⟩
    · rename_i hM
      obtain ⟨as, g1, a0, b0, dx, u, vs, rfl, g2, g3⟩ := rp.obj _ _ hM
      exact ⟨a0, dx, _, rl.2 a0 [b0] g1, g2, fun m h1 h2 => by rw [List.lookup_cons, beq_eq_false_iff_ne.mpr h1]; rw [List.lookup_cons, beq_eq_false_iff_ne.mpr h2]; rfl⟩
    · cases h
  · cases h
def evMc (ea : Sl → Mem → R W) (evs : Sl → Mem → R (List W)) (F : List W → Mem → R W) : Sl → Mem → R W := fun σ M => (ea σ M).bind fun w M => if insW M w then (evs σ M).bind fun ws M => F (w :: ws) M else .bad
theorem r_mcall {CX : CXT} {ex : Nat → Addr} {T : Nat → Option Fn} {k f : Nat} {m xn : Str} {px apos : Pos} {aM : Addr} {fd : FuncData} {ps : List Str} (hc : Cls X.K fa.c) (hm : Meth X.K fa.c m aM) (hb : Binds X.K fd ps []) (F : FnOk X.prog X.w X.K X.mg X.base CX k aM fd ps (spF X.K fa ex T k f)) (hr : Room k X.A) (hx : Passes CX X (EK ex XE))
    (m1 : m ≠ "spec") (m2 : m ≠ "rows") (ho : PE X (.Name xn px) (rdE X.K fa XE ea)) (ha : PA X (e :: es) (rdA X.K fa XE evs)) (hst : starEach (e :: es) X.env = (false, eval e X.env) :: starEach es X.env) (hpl : (backTo pos (starEach es X.env)).any (·.1) = false) (hline : (apos.endLine == pos.line) = true)
    (hfew : ((backTo pos (starEach (e :: es) X.env)).all (fun x => !x.1) && (backToKw pos (keywordEach [] X.env)).all (fun x => x.1.isSome) && decide ((e :: es).length + ([] : List Keyword).length + (if ([] : List Keyword).isEmpty then 0 else 1) < 30)) = true) :
    PE X (.Call (.Attribute (.Name xn px) m apos) (e :: es) [] pos) (rdE X.K fa XE (evMc ea evs (call T k f))) :=
  pe_of (pe_meth ho hc hm F hr hb .nil hx ha hst hpl (meth_eq rfl hline hfew)) fun σ H Q ⟨ρ, σ', M, sl, rp, q⟩ => by
    refine ⟨ρ, σ', M, sl, rp, (Post.bind q).mono fun v H1 ⟨w, ρ1, M1, t1, rp1, rl1, q1⟩ => ?_⟩
    split at q1
    · rename_i hi
      obtain ⟨a0, dx, fs, ev, g1, g2⟩ := insW_ob rp1 rl1 hi
      refine ⟨a0, dx, fs, ev, g1, g2 m m1 m2, ρ1, σ', M1, sl.to t1, rp1, (Post.bind q1).mono fun vs H2 ⟨ws, ρ2, M2, t2, rp2, rl2, q2⟩ => ?_⟩
      exact sp_of (ws := w :: ws) ⟨v, vs ++ [], rfl, rl1.to t2, by simpa using rl2⟩ rp2 q2
    · exact q1.elim
theorem r_mcall0 {CX : CXT} {ex : Nat → Addr} {T : Nat → Option Fn} {k f : Nat} {m xn : Str} {px apos : Pos} {aM : Addr} {fd : FuncData} {ps : List Str} (hc : Cls X.K fa.c) (hm : Meth X.K fa.c m aM) (hb : Binds X.K fd ps []) (F : FnOk X.prog X.w X.K X.mg X.base CX k aM fd ps (spF X.K fa ex T k f)) (hr : Room k X.A) (hx : Passes CX X (EK ex XE))
    (m1 : m ≠ "spec") (m2 : m ≠ "rows") (ho : PE X (.Name xn px) (rdE X.K fa XE ea)) (hline : (apos.endLine == pos.line) = true) :
    PE X (.Call (.Attribute (.Name xn px) m apos) [] [] pos) (rdE X.K fa XE (evMc ea (fun _ M => .ok [] M) (call T k f))) :=
  pe_of (pe_meth0 ho hc hm F hr hb .nil hx (meth_eq rfl hline rfl)) fun σ H Q ⟨ρ, σ', M, sl, rp, q⟩ => by
    refine ⟨ρ, σ', M, sl, rp, (Post.bind q).mono fun v H1 ⟨w, ρ1, M1, t1, rp1, rl1, q1⟩ => ?_⟩
    split at q1
    · rename_i hi
      obtain ⟨a0, dx, fs, ev, g1, g2⟩ := insW_ob rp1 rl1 hi
      refine ⟨a0, dx, fs, ev, g1, g2 m m1 m2, ?_⟩
      exact sp_of (ws := [w]) ⟨v, [], rfl, rl1, rfl⟩ rp1 q1
    · exact q1.elim
/-! ### C(e) -/
theorem r_make {CX : CXT} {ex : Nat → Addr} {T : Nat → Option Fn} {j f g : Nat} {x : Str} {p : Pos} {ai : Addr} {fd : FuncData} {ps : List Str} (hT : T f = some ⟨1, 1, [.mkS g]⟩) (hk : Mk X.K fa.c ai) (hb : Binds X.K fd ps []) (F : FnOk X.prog X.w X.K X.mg X.base CX j ai fd ps (spF X.K fa ex T j g)) (hr : Room (j + 1) X.A) (hg : Gl X x) (hm : X.mg x = some (.ref fa.c)) (hx : Passes CX X (EK ex XE))
    (he : PE X e (rdE X.K fa XE ee)) (hdb : (x == ("__debug__" : Str)) = false) (hs : starEach [e] X.env = (false, eval e X.env) :: starEach [] X.env) :
    PE X (.Call (.Name x p) [e] [] pos) (rdE X.K fa XE fun σ M => (ee σ M).bind fun w M => call T (j + 1) f [w] M) :=
  pe_of (pe_make hk F hr hg hm hb .nil hx (pa_cons he pa_nil hs) hdb hs rfl) fun σ H Q ⟨ρ, σ', M, sl, rp, q⟩ => by
    refine ⟨ρ, σ', M, sl, rp, (Post.bind q).mono fun v H1 ⟨w, ρ1, M1, t1, rp1, rl1, q1⟩ => ?_⟩
    intro xa dx nx ndx hne
    have sm : Same H1 (upd H1 dx (.own xa)) := same_upd ndx
    have rp2 := rp1.same sm
    have np : upd H1 dx (.own xa) xa = none := by rw [upd_ne hne.symm]; exact nx
    obtain ⟨t2, rp3, rlx⟩ := to_lay (o := .ins0) (ho := .ins fa.c dx []) rp2 np ⟨xa, dx, rfl, upd_same⟩
    have t12 := (To.same rp1 sm).trans t2
    refine sp_of (ws := [.r M1.length, w]) ⟨.ref xa, [v], rfl, rlx, v, [], rfl, rl1.to t12, rfl⟩ rp3 ?_
    have q2 : Post X.K fa XE ρ1 H1 (fin M1.length (evSs (call T j) [.mkS g] [some w] M1)) (RlW X.K fa) Q := by
      have ec : call T (j + 1) f [w] M1 = fin M1.length (evSs (call T j) [.mkS g] [some w] M1) := by simp only [call, hT]; rfl
      rw [← ec]; exact q1
    have q3 := fin_ok rp1 q2
    have es : evSs (call T j) [.mkS g] [some w] M1 = (match call T j g [.r M1.length, w] (M1 ++ [.ins0]) with
      | .ok (.d .non) M' => .ret (.r M1.length) M'
      | .exc c M' => .exc c M'
      | _ => .bad) := by
      simp only [evSs, evS]
      cases call T j g [.r M1.length, w] (M1 ++ [.ins0]) with
      | ok w2 M2 =>
        cases w2 with
        | d y => cases y <;> rfl
        | _ => rfl
      | _ => rfl
    rw [es] at q3
    cases hcl : call T j g [.r M1.length, w] (M1 ++ [.ins0]) with
    | bad => rw [hcl] at q3; exact q3
    | exc c M2 =>
      rw [hcl] at q3
      intro ρ4 H4 t4 rp4
      exact q3 ρ4 H4 (t12.trans t4) rp4
    | ok w2 M2 =>
      rw [hcl] at q3
      cases w2 with
      | d y =>
        cases y with
        | non =>
          intro ρ4 H4 b4 t4 rp4 rl4
          have eb : b4 = .non := by simpa [RlW, Rl] using rl4
          exact ⟨eb, q3 ρ4 H4 (.ref xa) (t12.trans t4) rp4 (rlx.to t4)⟩
        | _ => exact q3.elim
      | _ => exact q3.elim
/-- no level left: never reached -/
theorem r_make0 {x : Str} {p : Pos} (kp : PySem.W.keepIn X.K (.ref fa.c) = true) (hg : Gl X x) (hm : X.mg x = some (.ref fa.c)) (he : PE X e (rdE X.K fa XE ee)) (hdb : (x == ("__debug__" : Str)) = false) (hs : starEach [e] X.env = (false, eval e X.env) :: starEach [] X.env) :
    PE X (.Call (.Name x p) [e] [] pos) (rdE X.K fa XE fun σ M => (ee σ M).bind fun _ _ => .bad) := by
  have ha : PA X [e] _ := pa_cons he pa_nil hs
  refine ⟨fun pins s σ H Q I h => ?_⟩
  obtain ⟨ρ, σ', M, sl, rp, q⟩ := h
  refine wpAny_Call_Name_kw (ld_glob I hg hm ?_ hdb)
  refine PySem.W.callWith_K (h₀ := X.base) I.ok.mod.kin kp (thn (ha.run pos pins s σ H (fun _ _ => False) I ⟨ρ, σ', M, sl, rp, (Post.bind q).mono fun v H1 ⟨w, ρ1, M1, t1, rp1, rl1, q1⟩ => ?_⟩) fun us s1 ⟨vs, H1, I1, r, q⟩ => q.elim) hs rfl
  exact q1
/-! ### a.index(b) -/
end
end G

set_option Elab.async false
set_option linter.all false
set_option autoImplicit false
set_option maxRecDepth 100000
set_option maxHeartbeats 4000000
/-! Soundness, part W: sum(lists, []). -/
namespace G
open PySem PySem.Spec PyProof.Rows L2
section
variable {prog : Program} {w : World} {A : Around} {R : PySem.Result → Shared → Prop} {I ax : Addr}
def preL (it : Nat → List Value) (i : Nat) : List Value := ((List.range i).map it).flatten
theorem preL_succ (it : Nat → List Value) (i : Nat) : preL it (i + 1) = preL it i ++ it i := by simp [preL, List.range_succ]
theorem preL_le (it : Nat → List Value) {i n : Nat} (h : i ≤ n) : (preL it i).length ≤ (preL it n).length := by
  induction n with
  | zero => have : i = 0 := by omega
            subst this; exact Nat.le_refl _
  | succ n ih =>
    by_cases hi : i = n + 1
    · subst hi; exact Nat.le_refl _
    · rw [preL_succ, List.length_append]; have := ih (by omega); omega
theorem sumL_loop (hh : A.handled = none) (hne : ax ≠ I) {items : Array Value} {ad : Nat → Addr} {it : Nat → List Value} {cn : Nat → Nat} (hval : ∀ (i : Nat) (v : Value), items[i]? = some v → v = Value.ref (ad i)) (S : Addr) (hSI : S ≠ I) (hSa : S ≠ ax) (hsz : (preL it items.size).length ≤ sizeLine) (haI : ∀ j, j < items.size → ad j ≠ I ∧ ad j ≠ S) :
    ∀ (k i : Nat) (s : Shared) (T : Addr) (c cT : Nat), items.size - i = k → i ≤ items.size → (s.heap.IsListIter I ax i ∧ s.heap.IsList ax items) → s.heap.get? S = some { cls := .type "list", dict := none, data := .seq #[.ref T] c, slots := #[] } →
      PySem.IsL s.heap T (preL it i).toArray cT → T ≠ S → T ≠ I → (∀ j, j < items.size → PySem.IsL s.heap (ad j) (it j).toArray (cn j)) →
      (∀ h' tk T' cT', (∀ b o, b ≠ I → b ≠ S → s.heap.get? b = some o → h'.get? b = some o) → PySem.IsL h' T' (preL it items.size).toArray cT' → ((T' = T ∧ i = items.size) ∨ (s.heap.get? T' = none ∧ T' ≠ I ∧ T' ≠ S)) → R (.ok (.ret (.ref T'))) { s with heap := h', toks := tk }) →
      codeAny (model prog w) A (.builtin "sum.loop" ⟨[.ref I, .ref S, rawInt 2, rawInt 0], []⟩) R s := by
  have W := Walks.list (prog := prog) (w := w) (A := A.in1) hh I ax hne items
  have hS1 : S ∉ [I, ax] := by simp [hSI, hSa]
  intro k
  induction k with
  | zero =>
    intro i s T c cT hk hi hst hS hT hTS hTI hl hR
    have hin : i = items.size := by omega
    subst hin
    refine codeAny_builtin F.entry_sum_loop ?_
    rw [Around.under_plainId F.plain_sum_loop _]
    show wpAny _ A.in1 (seqItems? (.ref S) >>= _) _ _ s
    refine wpAny_bind (wpAny_seqItems hS rfl ?_)
    show wpAny _ A.in1 (tryCatch (pyNext (.ref I)) _ >>= _) _ _ s
    refine wpAny_bind (wpAny_tryCatch (W.done s _ _ hst fun h' tk hk' => ?_))
    exact wpAny_pure (hR h' tk T cT (fun b o hbI _ e => hk' b o (by simp [hbI]) e) (hk' T _ (by simp [hTI]) hT) (.inl ⟨rfl, rfl⟩))
  | succ k ih =>
    intro i s T c cT hk hi hst hS hT hTS hTI hl hR
    have hlt : i < items.size := by omega
    refine codeAny_builtin F.entry_sum_loop ?_
    rw [Around.under_plainId F.plain_sum_loop _]
    show wpAny _ A.in1 (seqItems? (.ref S) >>= _) _ _ s
    refine wpAny_bind (wpAny_seqItems hS rfl ?_)
    show wpAny _ A.in1 (tryCatch (pyNext (.ref I)) _ >>= _) _ _ s
    refine wpAny_bind (wpAny_tryCatch (W.item i s _ _ hlt hst fun v h' tk hP hst' hk' => ?_))
    have ev := hval i v hP
    subst ev
    have hS' := hk' S _ (by simp [hSI]) hS
    have hT' := hk' T _ (by simp [hTI]) hT
    have hA' := hk' (ad i) _ (by simp [(haI i hlt).1]) (hl i hlt)
    have hIlt : I < h'.objs.size := by obtain ⟨o, e, _⟩ := hst'.1; exact Heap.lt_size e
    have hSlt : S < h'.objs.size := Heap.lt_size hS'
    show wpAny _ A.in1 ((holding [Value.ref (ad i)] (binaryOp .Add (.ref T) (.ref (ad i)))).attempt >>= _) _ _ _
    refine wpAny_bind (wpAny_attempt (wpAny_holding (PySem.P.add_list hT' hA' ?_ (by
      have := preL_le it (show i + 1 ≤ items.size from hlt)
      rw [preL_succ, List.length_append] at this
      simp only [List.size_toArray]; omega))))
    have hS2 := Heap.get?_push_of_some { cls := .type "list", data := .seq ((preL it i).toArray ++ (it i).toArray) } hS'
    show wpAny _ A.in1 (updateSeq S (fun _ => #[.ref h'.objs.size]) >>= _) _ _ _
    refine wpAny_bind ?_
    refine wpAny_updateSeq hS2 rfl ?_
    have hS3 := Heap.get?_update_self (Obj.mapSeq fun _ => #[Value.ref h'.objs.size]) hS2 rfl
    refine wpAny_bind (wpAny_letGo ?_)
    refine wpAny_bind ?_
    have oth : ∀ b o, b ≠ S → h'.get? b = some o → (((h'.push { cls := .type "list", data := .seq ((preL it i).toArray ++ (it i).toArray) }).update S (Obj.mapSeq fun _ => #[Value.ref h'.objs.size])).update S (Obj.mapSeq fun _ => #[Value.ref h'.objs.size])).get? b = some o := fun b o hb e =>
      (Heap.get?_update_other _ _ (Ne.symm hb)).trans ((Heap.get?_update_other _ _ (Ne.symm hb)).trans (Heap.get?_push_of_some _ e))
    have hne1 : h'.objs.size ≠ S := Nat.ne_of_gt hSlt
    have hne2 : h'.objs.size ≠ I := Nat.ne_of_gt hIlt
    refine wpAny_updateSeq hS3 rfl (wpAny_pure ⟨plainId_quiet F.plain_sum_loop _, ih (i + 1) _ h'.objs.size _ 0 (by omega) hlt (W.frame _ _ _ hst' fun b hb o e => ?_) (Heap.get?_update_self _ hS3 rfl) ?_ hne1 hne2 (fun j hj => ?_) fun h'' tk'' T' cT' hk'' hL hT2 => ?_⟩)
    · exact oth b o (fun h => hS1 (h ▸ hb)) e
    · rw [preL_succ]
      refine (Heap.get?_update_other _ _ (Ne.symm hne1)).trans ((Heap.get?_update_other _ _ (Ne.symm hne1)).trans ?_)
      have := Heap.get?_push_size h' (o := { cls := .type "list", data := .seq ((preL it i).toArray ++ (it i).toArray) }) rfl
      rw [this]
      simp
    · exact oth _ _ (haI j hj).2 (hk' _ _ (by simp [(haI j hj).1]) (hl j hj))
    · refine hR h'' tk'' T' cT' (fun b o hbI hbS e => hk'' b o hbI hbS (oth b o hbS (hk' b o (by simp [hbI]) e))) hL (.inr ?_)
      rcases hT2 with ⟨rfl, _⟩ | ⟨g1, g2, g3⟩
      · refine ⟨?_, hne2, hne1⟩
        cases hq : s.heap.get? h'.objs.size with
        | none => rfl
        | some o => exact absurd (Heap.lt_size (hk' _ o (by simp [hne2]) hq)) (Nat.lt_irrefl _)
      · refine ⟨?_, g2, g3⟩
        cases hq : s.heap.get? T' with
        | none => rfl
        | some o => rw [oth T' o g3 (hk' _ o (by simp [g2]) hq)] at g1; cases g1
end
section
variable {prog : Program} {w : World} {A : Around} {E : Value → Shared → Prop} {s : Shared}
theorem args_sum2 (a b : Value) : argsOk "sum" ⟨[a, b], []⟩ := by unfold argsOk; kernel_rfl
theorem sumL_call {l b : Addr} {items : Array Value} {ad : Nat → Addr} {it : Nat → List Value} {cn : Nat → Nat} {cb : Nat} {Q : Value → Shared → Prop} (hh : A.handled = none) (hl : s.heap.IsList l items) (hb : PySem.IsL s.heap b #[] cb) (hval : ∀ (i : Nat) (v : Value), items[i]? = some v → v = Value.ref (ad i)) (hsz : (preL it items.size).length ≤ sizeLine)
    (hit : ∀ j, j < items.size → PySem.IsL s.heap (ad j) (it j).toArray (cn j))
    (h : ∀ h' tk T' cT', (∀ b o, s.heap.get? b = some o → h'.get? b = some o) → PySem.IsL h' T' (preL it items.size).toArray cT' → ((T' = b ∧ items.size = 0) ∨ s.heap.get? T' = none) → Q (.ref T') { s with heap := h', toks := tk }) :
    wpAny (model prog w) A (PySem.call (.builtin "sum") [.ref l, .ref b]) Q E s := by
  refine call_function_tree F.kind_sum F.plain_sum F.entry_sum (args_sum2 _ _) ?_
  unfold Builtin.«sum»
  simp only [List.length_cons, List.length_nil]
  rw [if_neg (by decide)]
  refine wpAny_bind (wpAny_of_eq (show Builtin.Builtins.bindParams "sum" ["start"] 0 ⟨[.ref b], []⟩ = pure [some (.ref b)] from rfl) ?_)
  refine wpAny_bind (wpAny_pyIter_list hl ?_)
  have hlt : l < s.heap.objs.size := by obtain ⟨_, e, _⟩ := hl; exact Heap.lt_size e
  have hblt : b < s.heap.objs.size := Heap.lt_size hb
  have hb2 := Heap.get?_push_of_some { cls := .type "list_iterator", data := .fields #[.ref l, .int 0 0] } hb
  refine wpAny_bind (wpAny_pure ?_)
  simp only [List.forIn_cons, List.forIn_nil]
  refine wpAny_bind (wpAny_bind (wpAny_bind (wpAny_isInstance (T := "list") (b := false) ⟨_, hb2, rfl⟩ F.sub_list_str ?_)))
  simp only [Bool.false_eq_true, if_false]
  refine wpAny_pure (wpAny_bind (wpAny_bind (wpAny_isInstance (T := "list") (b := false) ⟨_, hb2, rfl⟩ F.sub_list_bytes ?_)))
  simp only [Bool.false_eq_true, if_false]
  refine wpAny_pure (wpAny_bind (wpAny_bind (wpAny_isInstance (T := "list") (b := false) ⟨_, hb2, rfl⟩ F.sub_list_bytearray ?_)))
  simp only [Bool.false_eq_true, if_false]
  refine wpAny_pure (wpAny_pure ?_)
  refine wpAny_bind (wpAny_newObj_type ?_)
  have sz1 : (s.heap.push { cls := .type "list_iterator", data := .fields #[.ref l, .int 0 0] }).objs.size = s.heap.objs.size + 1 := Heap.size_push ..
  have up : ∀ x o (o2 : Obj), s.heap.get? x = some o → ((s.heap.push { cls := .type "list_iterator", data := .fields #[.ref l, .int 0 0] }).push o2).get? x = some o := fun x o o2 e => Heap.get?_push_of_some _ (Heap.get?_push_of_some _ e)
  refine wpAny_pure ⟨plainId_quiet F.plain_sum_loop _, sumL_loop (I := s.heap.objs.size) (ax := l) hh (Nat.ne_of_lt hlt) (it := it) hval (s.heap.push { cls := .type "list_iterator", data := .fields #[.ref l, .int 0 0] }).objs.size (by rw [sz1]; exact Nat.succ_ne_self _) (by rw [sz1]; exact Nat.ne_of_gt (Nat.lt_succ_of_lt hlt)) hsz (fun j hj => ?_) items.size 0 _ b 0 cb rfl (Nat.zero_le _)
    ⟨⟨_, Heap.get?_push_of_some _ (Heap.get?_push_size _ rfl), rfl, rfl⟩, (hl.push _).push _⟩ (Heap.get?_push_size _ rfl) (up _ _ _ hb) (by rw [sz1]; exact Nat.ne_of_lt (Nat.lt_succ_of_lt hblt)) (Nat.ne_of_lt hblt) (fun j hj => up _ _ _ (hit j hj)) fun h' tk T' cT' hk hL hT => ?_⟩
  · have := Heap.lt_size (hit j hj)
    rw [sz1]
    exact ⟨Nat.ne_of_lt this, Nat.ne_of_lt (Nat.lt_succ_of_lt this)⟩
  · refine h h' tk T' cT' (fun x o e => ?_) hL ?_
    · have := Heap.lt_size e
      exact hk x o (Nat.ne_of_lt this) (by rw [sz1]; exact Nat.ne_of_lt (Nat.lt_succ_of_lt this)) (up _ _ _ e)
    · rcases hT with ⟨rfl, e⟩ | ⟨g1, g2, g3⟩
      · exact .inl ⟨rfl, e.symm⟩
      · right
        cases hq : s.heap.get? T' with
        | none => rfl
        | some o => rw [up _ _ _ hq] at g1; cases g1
end
section
variable {X : Cx} {fa : FW} {XE : XP} {ea : Sl → Mem → R W}
/-- sum(v1, v2), v2 a new empty list -/
def rCatL (K : PySem.W.Frag) (fa : FW) : List V → Hp → VK → Prop := fun xs H Q => ∃ (m : Addr → Prop) (ds : List D) (z : D) (v1 v2 : V), xs = [v1, v2] ∧ (∀ a, m a → H a ≠ none) ∧ Vw K fa m H (.lst ds) v1 ∧ Rl K fa m H (.lst []) v2 ∧ biD .cat [.lst ds] = some z ∧ ∀ v H', Same H H' → Rl K fa m H' z v → Q v H'
theorem lsts_get : ∀ {ds : List D} {yss : List (List D)}, lstsOf ds = some yss → ds = yss.map .lst
  | [], yss, h => by simp only [lstsOf, Option.some.injEq] at h; subst h; rfl
  | d :: ds, yss, h => by
    cases d with
    | lst ys =>
      simp only [lstsOf, Option.map_eq_some_iff] at h
      obtain ⟨r, h1, rfl⟩ := h
      rw [lsts_get h1]; rfl
    | _ => simp [lstsOf] at h
theorem rls_at {K : PySem.W.Frag} {m : Addr → Prop} {H : Hp} : ∀ {ds : List D} {vs : List V}, Rls K fa m H ds vs → ds.length = vs.length ∧ ∀ (i : Nat) (d : D), ds[i]? = some d → ∃ v, vs[i]? = some v ∧ Rl K fa m H d v
  | [], vs, h => by
    have : vs = [] := by simpa [Rls] using h
    subst this; exact ⟨rfl, fun i d e => by simp at e⟩
  | d :: ds, vs, h => by
    simp only [Rls] at h
    obtain ⟨v, r, rfl, h1, h2⟩ := h
    obtain ⟨l, g⟩ := rls_at h2
    refine ⟨by simp [l], fun i x e => ?_⟩
    cases i with
    | zero => simp only [List.getElem?_cons_zero, Option.some.injEq] at e; subst e; exact ⟨v, rfl, h1⟩
    | succ i => simpa using g i x (by simpa using e)
theorem vals_get : ∀ {vs : List V} {us : List Value}, Vals vs us → ∀ (i : Nat) (u : Value), us[i]? = some u → ∃ v, vs[i]? = some v ∧ RelV v u
  | _, _, .nil, i, u, e => by simp at e
  | v :: vs, u0 :: us, .cons r t, i, u, e => by
    cases i with
    | zero => simp only [List.getElem?_cons_zero, Option.some.injEq] at e; subst e; exact ⟨v, rfl, r⟩
    | succ i => simpa using vals_get t i u (by simpa using e)
theorem cat_call (hc : X.calm = true) : CallR X (.builtin "sum") (rCatL X.K fa) := by
  intro pins s σ H xs us Q I r ⟨m, ds, z, v1, v2, exs, dom, hv1, hv2, ho, q⟩
  subst exs
  obtain ⟨a, vs, rfl, h1, h2⟩ := vw_sq (X := X) hv1
  simp only [Rl] at hv2
  obtain ⟨b, ws, rfl, nb, hb, hws⟩ := hv2
  have ew : ws = [] := by simpa [Rls] using hws
  subst ew
  simp only [biD, Option.bind_eq_some_iff] at ho
  obtain ⟨yss, hy, ho⟩ := ho
  split at ho
  · rename_i hlen
    simp only [Option.some.injEq] at ho
    subst ho
    have eds := lsts_get hy
    subst eds
    have eu : us = [.ref a, .ref b] := by
      cases r with
      | cons r1 t1 => cases t1 with
        | cons r2 t2 => cases t2; cases r1; cases r2; rfl
    subst eu
    obtain ⟨z1, its, n1, rv, hl, e1⟩ := I.lstM h1
    obtain ⟨z2, itsb, n2, rvb, hlb, e2⟩ := I.lstM hb
    have eb : itsb = [] := by cases rvb; rfl
    subst eb
    obtain ⟨hn, hat⟩ := rls_at h2
    have hn' : yss.length = its.length := by rw [List.length_map] at hn; omega
    let ad : Nat → Addr := fun j => match vs[j]? with | some (.ref p) => p | _ => 0
    let zs : Nat → List V := fun j => match H (ad j) with | some (.lst z) => z | _ => []
    let it : Nat → List Value := fun j => match s.heap.get? (ad j) with | some ⟨_, _, .seq u _, _⟩ => u.toList | _ => []
    let cn : Nat → Nat := fun j => match s.heap.get? (ad j) with | some ⟨_, _, .seq _ c, _⟩ => c | _ => 0
    have fact : ∀ j (hj : j < yss.length), vs[j]? = some (.ref (ad j)) ∧ Rls X.K fa m H yss[j] (zs j) ∧ Vals (zs j) (it j) ∧ PySem.IsL s.heap (ad j) (it j).toArray (cn j) := by
      intro j hj
      obtain ⟨v, g1, g2⟩ := hat j (.lst yss[j]) (by simp [hj])
      simp only [Rl] at g2
      obtain ⟨p, ws, rfl, np, g3, g4⟩ := g2
      have ea : ad j = p := by simp only [ad, g1]
      have ez : zs j = ws := by simp only [zs, ea, g3]
      obtain ⟨_, itj, nj, rvj, _, ej⟩ := I.lstM g3
      have ei : it j = itj := by simp only [it, ea, ej]
      have ec : cn j = nj := by simp only [cn, ea, ej]
      rw [ea, ez, ei, ec]
      exact ⟨g1, g4, rvj, ej⟩
    have pre : ∀ i, i ≤ yss.length → Rls X.K fa m H (yss.take i).flatten (((List.range i).map zs).flatten) ∧ Vals (((List.range i).map zs).flatten) (preL it i) := by
      intro i
      induction i with
      | zero => intro _; exact ⟨by simp [Rls], .nil⟩
      | succ i ih =>
        intro hi
        obtain ⟨a1, a2⟩ := ih (by omega)
        obtain ⟨f1, f2, f3, f4⟩ := fact i hi
        rw [List.take_succ, List.getElem?_eq_getElem hi, preL_succ, List.range_succ]
        simp only [Option.toList_some, List.flatten_append, List.flatten_cons, List.flatten_nil, List.append_nil, List.map_append, List.map_cons, List.map_nil]
        exact ⟨a1.append f2, a2.append f3⟩
    obtain ⟨p1, p2⟩ := pre yss.length (Nat.le_refl _)
    rw [List.take_length] at p1
    have hsz : (preL it its.length).length ≤ sizeLine := by
      rw [← hn', ← p2.length, ← p1.length]; exact line_le hlen
    have hl2 : (((List.range yss.length).map zs).flatten).length ≤ sizeLine := by rw [← p1.length]; exact line_le hlen
    refine sumL_call (ad := ad) (it := it) (cn := cn) (items := its.toArray) (cb := n2) (I.ok.hd hc) ⟨_, e1, rfl, _, rfl⟩ e2 (fun i v e => ?_) (by simpa using hsz) (fun j hj => (fact j (by simp at hj; omega)).2.2.2) fun h' tk T' cT' hk hL hT => ?_
    · have e' : its[i]? = some v := by simpa using e
      obtain ⟨x, g1, g2⟩ := vals_get rv i v e'
      have hi : i < yss.length := by have := (List.getElem?_eq_some_iff.mp e').1; omega
      rw [(fact i hi).1] at g1
      cases g1
      cases g2; rfl
    · rcases hT with ⟨rfl, hz⟩ | hg
      · have h0 : yss = [] := List.length_eq_zero_iff.mp (by rw [hn']; simpa using hz)
        subst h0
        refine ⟨.ref T', H, I.kept hk, rfl, q _ _ (.refl H) ?_⟩
        simp only [Rl]
        exact ⟨T', [], rfl, nb, hb, by simp [Rls]⟩
      · have hnH := I.hok.gone hg
        refine ⟨.ref T', upd H T' (.lst (((List.range yss.length).map zs).flatten)), I.laidN hk hg hnH ⟨hl2, preL it yss.length, cT', p2, ?_⟩, rfl, q _ _ (same_upd hnH) (.newL dom hnH p1)⟩
        rw [hn']
        exact hL
  · cases ho
/-- sum(a, []) -/
theorem r_cat {a b : Expr} {p pos : Pos} (hc : X.calm = true) (hg : Gl X "sum") (hm : X.mg "sum" = none) (ha : PE X a (rdE X.K fa XE ea)) (hb : PE X b (rdE X.K fa XE fun _ M => .ok (.d (.lst [])) M)) (hs : starEach [a, b] X.env = (false, eval a X.env) :: starEach [b] X.env) (hs2 : starEach [b] X.env = (false, eval b X.env) :: starEach [] X.env) :
    PE X (.Call (.Name "sum" p) [a, b] [] pos) (rdE X.K fa XE (ev1 (fun x => biD .cat [x]) ea)) :=
  pe_of (pe_callB (cat_call (fa := fa) hc) hg hm (by decide +kernel) (r_cons ha (r_cons hb r_nil hs2) hs) (by decide +kernel) (by decide +kernel) hs (by rw [hs2]; rfl)) fun σ H Q ⟨ρ, σ', M, sl, rp, q⟩ => by
    refine ⟨ρ, σ', M, sl, rp, ?_⟩
    simp only [ev1] at q
    show Post X.K fa XE ρ H ((ea σ' M).bind fun w M => .ok [w, .d (.lst [])] M) _ _
    cases he : ea σ' M with
    | bad => rw [he] at q; exact q
    | exc c M2 => rw [he] at q; exact q
    | ok w M1 =>
      rw [he] at q
      intro ρ2 H2 vs t2 rp2 rl2
      obtain ⟨v, v', rfl, r1, r2⟩ := rlws_two rl2
      have q2 : Post X.K fa XE ρ2 H2 (ofO (asD M1 w) fun x => ofO (biD .cat [x]) fun z => .ok (.d z) M1) (RlW X.K fa) Q := Post.from q t2
      obtain ⟨x, e1, q2⟩ := Post.of q2
      obtain ⟨z, e2, q3⟩ := Post.val q2 rp2
      have vx := r1.vw rp2 e1
      cases x with
      | lst ds => exact ⟨mu ρ2, ds, z, v, v', rfl, fun a h => rp2.dom h, vx, r2, e2, q3⟩
      | _ => simp [biD] at e2
end
end G

set_option Elab.async false
set_option linter.all false
set_option autoImplicit false
set_option maxRecDepth 100000
set_option maxHeartbeats 4000000
/-! Soundness, part X: join, split, int(text). -/
namespace G
open PySem PySem.Spec PyProof.Rows L2
theorem splitC_ne (c : Nat) (a : List Nat) : ∃ p r, splitC c a = p :: r := by
  cases a with
  | nil => exact ⟨_, _, rfl⟩
  | cons x a =>
    simp only [splitC]
    split
    · exact ⟨_, _, rfl⟩
    · split
      · exact ⟨_, _, rfl⟩
      · exact ⟨_, _, rfl⟩
theorem spl_C (c : Nat) : ∀ (a acc : List Nat), TL.spl [c] 0 acc a = match splitC c a with
    | p :: r => (acc ++ p) :: r
    | [] => [acc]
  | [], acc => by simp [TL.spl, splitC]
  | x :: a, acc => by
    have ih := spl_C c a
    obtain ⟨p, r, hp⟩ := splitC_ne c a
    by_cases h : x = c
    · subst h
      have e : TL.spl [x] 0 acc (x :: a) = acc :: TL.spl [x] 0 [] a := by simp [TL.spl, TL.pre]
      rw [e, ih [], hp]
      simp only [splitC, if_true, List.append_nil, List.nil_append, hp]
    · have e : TL.spl [c] 0 acc (x :: a) = TL.spl [c] 0 (acc ++ [x]) a := by simp [TL.spl, TL.pre, h, Ne.symm h]
      rw [e, ih, hp]
      simp [splitC, if_neg h, hp]
theorem split_is {c : Nat} (hc : c < 256) (a : List Nat) : Txt.split ⟨a.toArray⟩ ⟨#[c]⟩ = (splitC c a).map fun z => (⟨z.toArray⟩ : Str) := by
  refine TL.map_tl_inj ?_
  rw [TL.split_spl _ _ (by simp [TL.tl]) (TL.kind_ok (by simp [hc]))]
  have e : TL.tl (⟨#[c]⟩ : Str) = [c] := rfl
  have e2 : TL.tl (⟨a.toArray⟩ : Str) = a := rfl
  rw [e, e2, spl_C]
  obtain ⟨p, r, hp⟩ := splitC_ne c a
  rw [hp]
  simp [TL.tl, Function.comp_def]
theorem joinL_S (s : List Nat) : ∀ zs : List (List Nat), TL.joinL s zs = joinS s zs
  | [] => rfl
  | [x] => rfl
  | x :: y :: r => by simp only [TL.joinL, joinS, joinL_S s (y :: r)]
theorem join_is (s : List Nat) (zs : List (List Nat)) : Txt.join ⟨s.toArray⟩ (zs.map fun z => (⟨z.toArray⟩ : Str)) = ⟨(joinS s zs).toArray⟩ := by
  refine TL.ext_tl ?_
  rw [TL.join_eq, TL.tl_join]
  have e : (zs.map fun z => (⟨z.toArray⟩ : Str)).map TL.tl = zs := by simp [TL.tl, Function.comp_def]
  rw [e, joinL_S]
theorem digit_is : ∀ c : Nat, 48 ≤ c → c ≤ 57 → PySem.intText? ⟨#[c]⟩ = some ((c : Int) - 48) := by
  have h : ∀ i : Fin 10, PySem.intText? ⟨#[48 + i.val]⟩ = some (((48 + i.val : Nat) : Int) - 48) := by decide +kernel
  intro c h1 h2
  have := h ⟨c - 48, by omega⟩
  simp only [show 48 + (c - 48) = c by omega] at this
  exact this
section
variable {X : Cx} {fa : FW} {XE : XP} {a b c e : Expr} {pos : Pos} {ea : Sl → Mem → R W}
theorem tc_rd {v : V} {σ : StV} {H : Hp} {Q : VK} (h : Q v H) : tC v σ H Q := h
/-- a.split("c") -/
theorem r_split {z : Str} {j : Nat} {p2 apos : Pos} (ha : PE X a (rdE X.K fa XE ea)) (hbase : attributeBase a "split" X.env (eval a X.env) = eval a X.env) (hline : (apos.endLine == pos.line) = true) :
    PE X (.Call (.Attribute a "split" apos) [.Constant (.str z) j p2] [] pos) (rdE X.K fa XE (ev1 (fun x => biD (.splitW z.cps.toList) [x]) ea)) :=
  pe_of (pe_m1 PySem.F.slot_str_split PySem.F.type_str_split mt_split ha pe_str rfl hbase hline) fun σ H Q ⟨ρ, σ', M, sl, rp, q⟩ => by
    refine ⟨ρ, σ', M, sl, rp, (Post.bind q).mono fun v H1 ⟨w, ρ1, M1, t1, rp1, rl1, q1⟩ => ?_⟩
    obtain ⟨y, e1, q1⟩ := Post.of q1
    obtain ⟨r, e2, q2⟩ := Post.val q1 rp1
    have vw := rl1.vw rp1 e1
    cases y with
    | str s =>
      have ev : v = .str ⟨s.toArray⟩ := by simpa [Vw, Rl] using vw
      subst ev
      refine ⟨⟨_, rfl⟩, ?_⟩
      simp only [biD] at e2
      split at e2
      · rename_i c hz
        split at e2
        · rename_i hc
          simp only [Option.some.injEq] at e2; subst e2
          have ez : z = ⟨#[c]⟩ := TL.ext_tl (by show z.cps.toList = [c]; exact hz)
          subst ez
          refine ⟨_, _, rfl, rfl, rfl, ?_, fun p np => ?_⟩
          · have := sizeLine_eq
            show s.length + 2 ≤ _
            omega
          · rw [split_is hc.1]
            exact q2 _ _ (same_upd np) (.newL (fun a h => rp1.dom h) np (rls_strs _))
        · cases e2
      · cases e2
    | _ => simp [biD] at e2
/-- "s".join(a) -/
theorem r_join {z : Str} {j : Nat} {p2 apos : Pos} (ha : PE X a (rdE X.K fa XE ea)) (hs : starEach [a] X.env = [(false, eval a X.env)]) (hline : (apos.endLine == pos.line) = true) :
    PE X (.Call (.Attribute (.Constant (.str z) j p2) "join" apos) [a] [] pos) (rdE X.K fa XE (ev1 (fun x => biD (.joinW z.cps.toList) [x]) ea)) :=
  pe_of (pe_m1 PySem.F.slot_str_join PySem.F.type_str_join mt_join pe_str ha hs rfl hline) fun σ H Q ⟨ρ, σ', M, sl, rp, q⟩ => by
    refine ⟨⟨_, rfl⟩, ρ, σ', M, sl, rp, (Post.bind q).mono fun v H1 ⟨w, ρ1, M1, t1, rp1, rl1, q1⟩ => ?_⟩
    obtain ⟨y, e1, q1⟩ := Post.of q1
    obtain ⟨r, e2, q2⟩ := Post.val q1 rp1
    have vw := rl1.vw rp1 e1
    have bnd : ∀ zs : List (List Nat), joinOk z.cps.toList zs = true → ((zs.map fun z => (⟨z.toArray⟩ : Str)).map (·.length)).sum + (zs.map fun z => (⟨z.toArray⟩ : Str)).length * z.length ≤ 16777216 := fun zs h => by
      simp only [joinOk, decide_eq_true_eq] at h
      have e3 : (zs.map fun z => (⟨z.toArray⟩ : Str)).map (·.length) = zs.map List.length := by simp [Function.comp_def, Str.length]
      rw [e3, List.length_map, TL.len_tl z]
      show _ + zs.length * z.cps.toList.length ≤ _
      omega
    cases y with
    | lst ds =>
      simp only [biD, Option.bind_eq_some_iff] at e2
      obtain ⟨zs, h1, h2⟩ := e2
      split at h2
      · rename_i hj
        simp only [Option.some.injEq] at h2; subst h2
        obtain ⟨p, vs, rfl, g1, g2⟩ := vw_sq vw
        have ev := strs_rls h1 g2
        subst ev
        refine ⟨z, p, _, rfl, rfl, .inl (.of g1), bnd zs hj, ?_⟩
        have := join_is z.cps.toList zs
        have ez : (⟨z.cps.toList.toArray⟩ : Str) = z := TL.mk_tl z
        rw [ez] at this
        rw [this]
        exact q2 _ _ (.refl H1) (by simp [Rl])
      · cases h2
    | tup ds =>
      simp only [biD, Option.bind_eq_some_iff] at e2
      obtain ⟨zs, h1, h2⟩ := e2
      split at h2
      · rename_i hj
        simp only [Option.some.injEq] at h2; subst h2
        obtain ⟨p, vs, rfl, _, g1, g2⟩ := vw_tup vw
        have ev := strs_rls h1 g2
        subst ev
        refine ⟨z, p, _, rfl, rfl, .inr (.of g1), bnd zs hj, ?_⟩
        have := join_is z.cps.toList zs
        have ez : (⟨z.cps.toList.toArray⟩ : Str) = z := TL.mk_tl z
        rw [ez] at this
        rw [this]
        exact q2 _ _ (.refl H1) (by simp [Rl])
      · cases h2
    | _ => simp [biD] at e2
/-- int("7") -/
theorem int_ok : CallR X (.type "int") (RBi X.K fa (biD .int)) := by
  intro pins s σ H xs us Q I r ⟨m, ds, x, dom, hv, ho, q⟩
  match ds, ho, hv with
  | [d], ho, hv =>
    obtain ⟨v, rfl, h⟩ := hv.one
    cases d with
    | str z =>
      have ev : v = .str ⟨z.toArray⟩ := by simpa [Vw, Rl] using h
      subst ev
      simp only [biD] at ho
      split at ho
      · rename_i c
        split at ho
        · rename_i hc
          simp only [Option.some.injEq] at ho; subst ho
          exact call_int_str pins s σ H _ us Q I r ⟨_, _, rfl, digit_is _ hc.1 hc.2, by show 1 ≤ 640; decide, q _ _ (.refl H) (by simp [Rl])⟩
        · cases ho
      · cases ho
    | _ => simp [biD] at ho
  | [], ho, _ => simp [biD] at ho
  | _ :: _ :: _, ho, _ => simp [biD] at ho
end
end G

set_option Elab.async false
set_option linter.all false
set_option autoImplicit false
set_option maxRecDepth 100000
set_option maxHeartbeats 4000000
/-! Soundness, part 11: the checker. -/
namespace G
open PySem PySem.Spec PyProof.Rows L2

structure Tab where
  g : List (Nat × Str × D)
  f : List (Nat × Str)
  x : List (Nat × Str)
  /-- defs that give the first part of a tuple -/
  k : List (Nat × Str)
  /-- is there the class -/
  c : Bool
  /-- the class's maker: its def, the def of __init__, the class's name -/
  m : List (Nat × Nat × Str)
  /-- methods -/
  h : List (Nat × Str)
  /-- is there a try -/
  t : Bool

def visB (sc : Scope) (x : Str) : Bool := match sc.names.lookup x with
  | some .local => true
  | some .cell => true
  | some .free => true
  | _ => false
def locB (sc : Scope) (x : Str) : Bool := match sc.names.lookup x with
  | some .local => true
  | some .cell => true
  | _ => false
def lclB (sc : Scope) (x : Str) : Bool := match sc.names.lookup x with
  | some .local => true
  | _ => false
def glB (sc : Scope) (x : Str) : Bool := match sc.names.lookup x with
  | some .globalImplicit => true
  | _ => false
def okN (x : Str) : Bool := !(x == ("__debug__" : Str)) && (!(x == ("__classdict__" : Str)) && decide (x ≠ ("__name__" : Str)))
def constB : Const → D → Bool
  | .none, .non => true
  | .bool b, .bl c => b == c
  | .int i, .int j => decide (i = j)
  | .str s, .str z => decide (s = ⟨z.toArray⟩)
  | _, _ => false
def binB : Op → Operator → Bool
  | .add, .Add => true | .sub, .Sub => true | .mul, .Mult => true | .fdiv, .FloorDiv => true | .mod, .Mod => true | .pow, .Pow => true
  | _, _ => false
def cmpB : Op → CmpOp → Bool
  | .eq, .Eq => true | .ne, .NotEq => true | .lt, .Lt => true | .le, .LtE => true | .gt, .Gt => true | .ge, .GtE => true
  | .is_, .Is => true | .isnot, .IsNot => true | .in_, .In => true | .notin, .NotIn => true
  | _, _ => false
def notStar : Expr → Bool
  | .Starred .. => false
  | _ => true
def notSlice : Expr → Bool
  | .Slice .. => false
  | _ => true
def notComp : Expr → Bool
  | .ListComp .. => false
  | .SetComp .. => false
  | .DictComp .. => false
  | _ => true
def notSet : Expr → Bool
  | .Set .. => false
  | _ => true
def notTup : Expr → Bool
  | .Tuple .. => false
  | _ => true
/-- a test that is its value's truth -/
def plainT : Expr → Bool
  | .UnaryOp .. => false
  | .BoolOp .. => false
  | .IfExp .. => false
  | .Compare .. => false
  | _ => true
def baseB : Expr → Bool
  | .Call .. => false
  | _ => true
/-- "s".join(x), o.split("s") -/
def strB : Bi → Expr → Str → Expr → Bool
  | .joinW z, .Constant (.str s) _ _, m, _ => decide (m = ("join" : Str)) && decide (s.cps.toList = z)
  | .splitW z, _, m, .Constant (.str s) _ _ => decide (m = ("split" : Str)) && decide (s.cps.toList = z)
  | _, _, _, _ => false
/-- the one that is looked at -/
def strA (m : Str) (o x : Expr) : Expr := if m = ("join" : Str) then x else o
def methB (n : Str) : Bool := decide (n ≠ ("spec" : Str)) && decide (n ≠ ("rows" : Str))
/-- [] -/
def nilE : Expr → Bool
  | .List [] _ => true
  | _ => false
def bltNames : List Str := ["len", "isinstance", "int", "bool", "str", "tuple", "list", "all", "sum", "max", "sorted", "range", "zip", "enumerate", "repr", "ValueError"]
/-- a built-in that is called by its name -/
def biName : Bi → Option String
  | .len => some "len" | .str => some "str" | .int => some "int" | .all => some "all" | .tuple => some "tuple" | .sum => some "sum" | .max2 => some "max"
  | _ => none
def isName : Bi → Option String
  | .isInt => some "int" | .isBool => some "bool" | .isStr => some "str" | .isTup => some "tuple" | .isList => some "list"
  | _ => none
def mtName : Mt → Option String
  | .append => some "append" | .extend => some "extend" | .popAt => some "pop"
  | _ => none

section
variable (T : Tab) (N : List Str)
def ownOf (t : List Nat) : List (Str × Nat) := t.map fun i => (N.getD i "", i)
mutual
def chkG (sc : Scope) : Tg → Expr → Bool
  | .nm i, .Name x _ => decide (N[i]? = some x) && locB sc x
  | .tup ts, .Tuple es _ _ => chkGs sc ts es
  | _, _ => false
def chkGs (sc : Scope) : List Tg → List Expr → Bool
  | [], [] => true
  | t :: ts, e :: es => notStar e && (chkG sc t e && chkGs sc ts es)
  | _, _ => false
end
mutual
def chkE (sc : Scope) : Ex → Expr → Bool
  | .c x, .Constant v _ _ => constB v x
  | .v i, .Name x _ => decide (N[i]? = some x) && (visB sc x && okN x)
  | .g nm x, .Name s _ => glB sc s && (okN s && T.g.any fun q => q.1 == nm && (decide (q.2.1 = s) && D.same q.2.2 x))
  | .tup es, .Tuple xs _ _ => chkEs sc es xs && decide (xs.length ≤ line)
  | .dnew, .Dict [] [] _ => true
  | .lst _ es, .List xs _ => chkEs sc es xs && decide (xs.length ≤ line)
  | .op o a b, .BinOp l po r _ => binB o po && (chkE sc a l && chkE sc b r)
  | .op o a b, .Compare l [co] [r] _ => cmpB o co && (chkE sc a l && (chkE sc b r && !behindInMarks co r))
  | .op o a b, .Subscript l r _ => decide (o = .ix) && (chkE sc a l && (chkE sc b r && notSlice r))
  | .chain o o' a b c, .Compare l [co, co'] [m, r] _ => cmpB o co && (cmpB o' co' && (chkE sc a l && (chkE sc b m && (chkE sc c r && !lastMarks [co, co'] [m, r]))))
  | .not a, .UnaryOp .Not x _ => chkE sc a x
  | .and es, .BoolOp .And xs _ => chkEs sc es xs && !xs.isEmpty
  | .or es, .BoolOp .Or xs _ => chkEs sc es xs && !xs.isEmpty
  | .ife c a b, .IfExp t x y _ => chkT sc c t && (chkE sc a x && chkE sc b y)
  | .bi b es, .Call (.Name f _) xs [] _ => (match biName b with | some n => decide (f = Str.ofString n) | none => false) && (glB sc f && (chkEs sc es xs && !xs.isEmpty))
  | .un b a, .Call (.Name f _) [x, .Name t _] [] _ => decide (f = ("isinstance" : Str)) && ((match isName b with | some n => decide (t = Str.ofString n) | none => false) && (glB sc f && (glB sc t && (chkE sc a x && notStar x))))
  | .un b a, .Call (.Name f _) [x, .List [] _] [] _ => decide (b = .cat) && (decide (f = ("sum" : Str)) && (glB sc f && (chkE sc a x && notStar x)))
  | .un b a, .UnaryOp .USub x _ => decide (b = .neg) && chkE sc a x
  | .un b a, .Call (.Attribute o m apos) [.Constant (.bool true) _ _] [] cpos => decide (b = .indexTrue) && (decide (m = ("index" : Str)) && (chkE sc a o && (baseB o && (apos.endLine == cpos.line))))
  | .un b a, .Call (.Attribute o m apos) [x] [] cpos => strB b o m x && (chkE sc a (strA m o x) && (notStar (strA m o x) && (baseB (strA m o x) && (apos.endLine == cpos.line))))
  | .call f es, .Call (.Name s _) xs [] _ => glB sc s && (okN s && ((T.f.any fun q => q.1 == f && decide (q.2 = s)) && chkEs sc es xs))
  | .calll i es, .Call (.Name x _) xs [] _ => decide (N[i]? = some x) && (visB sc x && (okN x && (chkEs sc es xs && !xs.isEmpty)))
  | .sortedK f a, .Call (.Name g _) [x] [⟨some kn, .Name s _, _⟩] _ => decide (g = ("sorted" : Str)) && (decide (kn = ("key" : Str)) && (glB sc g && (glB sc s && (okN s && ((T.k.any fun q => q.1 == f && decide (q.2 = s)) && (chkE sc a x && notStar x))))))
  | .dcomp t it k v, .DictComp kx vx [⟨tg, iter, [], as⟩] scope _ => decide (as = 0) && (chkI sc it tg iter && (chkG N scope t tg && (chkE scope k kx && (chkE scope v vx && (blkC N sc scope (ownOf N t.vars) && notSet iter)))))
  | .slice a lo hi, .Subscript x (.Slice l h none _) _ => chkE sc a x && (chkO sc lo l && chkO sc hi h)
  | .rev a, .Subscript x (.Slice none none (some (.UnaryOp .USub (.Constant (.int i) _ _) _)) _) _ => decide (i = 1) && chkE sc a x
  | .sorted a, .Call (.Name f _) [x] [] _ => decide (f = ("sorted" : Str)) && (glB sc f && (chkE sc a x && notStar x))
  | .listof _ a, .Call (.Name f _) [x] [] _ => decide (f = ("list" : Str)) && (glB sc f && (chkE sc a x && notStar x))
  | .rep _ a b, .BinOp l .Mult r _ => chkE sc a l && chkE sc b r
  | .comp _ t it cond elt, .ListComp x [⟨tg, iter, ifs, as⟩] scope _ => decide (as = 0) && (chkI sc it tg iter && (chkG N scope t tg && (chkC scope cond ifs && (chkE scope elt x && (blkC N sc scope (ownOf N t.vars) && notSet iter)))))
  | .comp2 t it t2 it2 elt, .ListComp x [⟨tg, iter, [], as⟩, ⟨tg2, iter2, [], as2⟩] scope _ => decide (as = 0 ∧ as2 = 0) && (chkI sc it tg iter && (chkG N scope t tg && (chkI scope it2 tg2 iter2 && (chkG N scope t2 tg2 && (chkE scope elt x && (blkC N sc scope (ownOf N (t.vars ++ t2.vars)) && (notSet iter && notSet iter2)))))))
  | .meth m a es, .Call (.Attribute o n apos) [x, y] [] cpos => decide (m = .insert) && (decide (n = ("insert" : Str)) && (chkE sc a o && (chkEs sc es [x, y] && (baseB o && (apos.endLine == cpos.line)))))
  | .meth m a es, .Call (.Attribute o n apos) [x] [] cpos => (match mtName m with | some s => decide (n = Str.ofString s) | none => false) && (chkE sc a o && (chkEs sc es [x] && (baseB o && (apos.endLine == cpos.line))))
  | .inn a b, .Subscript l r _ => chkE sc a l && (chkE sc b r && notSlice r)
  | .nnil a, .Compare l [co] [r] _ => decide (co = .NotEq) && (chkE sc a l && nilE r)
  | .appN a m, .Call (.Attribute o n apos) [x] [] cpos => decide (n = ("append" : Str)) && (chkE sc a o && (chkE sc m x && (notStar x && (baseB o && (apos.endLine == cpos.line)))))
  | .make f a, .Call (.Name s _) [x] [] _ => glB sc s && (okN s && ((T.m.any fun q => q.1 == f && decide (q.2.2 = s)) && (chkE sc a x && notStar x)))
  | .fsp a, .Attribute x n _ => T.c && (decide (n = ("spec" : Str)) && (chkE sc a x && baseB x))
  | .frw a, .Attribute x n _ => T.c && (decide (n = ("rows" : Str)) && (chkE sc a x && baseB x))
  | .mcall f a es, .Call (.Attribute (.Name x p) n apos) xs [] cpos => T.c && ((T.h.any fun q => q.1 == f && decide (q.2 = n)) && (chkE sc a (.Name x p) && (chkEs sc es xs && ((apos.endLine == cpos.line) && (methB n && decide (xs.length < 30))))))
  | .callx a es, .Call (.Subscript l r p) xs [] _ => chkE sc a (.Subscript l r p) && (chkEs sc es xs && !xs.isEmpty)
  | _, _ => false
def chkT (sc : Scope) : Ex → Expr → Bool
  | .op o a b, .Compare l [co] [r] _ => cmpB o co && (chkE sc a l && (chkE sc b r && !behindInMarks co r))
  | .chain o o' a b c, .Compare l [co, co'] [m, r] _ => cmpB o co && (cmpB o' co' && (chkE sc a l && (chkE sc b m && (chkE sc c r && !lastMarks [co, co'] [m, r]))))
  | .not a, .UnaryOp .Not x _ => chkT sc a x
  | .and es, .BoolOp .And xs _ => chkTs sc es xs && !xs.isEmpty
  | .or es, .BoolOp .Or xs _ => chkTs sc es xs && !xs.isEmpty
  | .c x, .Constant v _ _ => constB v x
  | .v i, .Name x _ => decide (N[i]? = some x) && (visB sc x && okN x)
  | .un b a, .Call (.Name f _) [x, .Name t _] [] _ => decide (f = ("isinstance" : Str)) && ((match isName b with | some n => decide (t = Str.ofString n) | none => false) && (glB sc f && (glB sc t && (chkE sc a x && notStar x))))
  | .bi b es, .Call (.Name f _) xs [] _ => (match biName b with | some n => decide (f = Str.ofString n) | none => false) && (glB sc f && (chkEs sc es xs && !xs.isEmpty))
  | .call f es, .Call (.Name s _) xs [] _ => glB sc s && (okN s && ((T.f.any fun q => q.1 == f && decide (q.2 = s)) && chkEs sc es xs))
  | .calll i es, .Call (.Name x _) xs [] _ => decide (N[i]? = some x) && (visB sc x && (okN x && (chkEs sc es xs && !xs.isEmpty)))
  | .nnil a, .Compare l [co] [r] _ => decide (co = .NotEq) && (chkE sc a l && nilE r)
  | _, _ => false
def chkEs (sc : Scope) : List Ex → List Expr → Bool
  | [], [] => true
  | m :: ms, e :: es => notStar e && (chkE sc m e && chkEs sc ms es)
  | _, _ => false
def chkTs (sc : Scope) : List Ex → List Expr → Bool
  | [], [] => true
  | m :: ms, e :: es => chkT sc m e && chkTs sc ms es
  | _, _ => false
def chkO (sc : Scope) : Option Ex → Option Expr → Bool
  | none, none => true
  | some m, some e => chkE sc m e
  | _, _ => false
def chkC (sc : Scope) : Option Ex → List Expr → Bool
  | none, [] => true
  | some m, [e] => chkT sc m e
  | _, _ => false
def chkI (sc : Scope) : It → Expr → Expr → Bool
  | .seq a, _, e => chkE sc a e
  | .range1 a, _, .Call (.Name f _) [x] [] _ => decide (f = ("range" : Str)) && (glB sc f && (chkE sc a x && notStar x))
  | .range2 a b, _, .Call (.Name f _) [x, y] [] _ => decide (f = ("range" : Str)) && (glB sc f && (chkE sc a x && (notStar x && (chkE sc b y && notStar y))))
  | .zip a b, .Tuple _ _ _, .Call (.Name f _) [x, y] [] _ => decide (f = ("zip" : Str)) && (glB sc f && (chkE sc a x && (notStar x && (chkE sc b y && notStar y))))
  | .enum a, .Tuple _ _ _, .Call (.Name f _) [x] [] _ => decide (f = ("enumerate" : Str)) && (glB sc f && (chkE sc a x && notStar x))
  | .items a, .Tuple _ _ _, .Call (.Attribute o n apos) [] [] cpos => decide (n = ("items" : Str)) && (chkE sc a o && (baseB o && (apos.endLine == cpos.line)))
  | _, _, _ => false
end
end

/-! ### what the checks say of the text -/
theorem and_true {a b : Bool} (h : (a && b) = true) : a = true ∧ b = true := by simpa using h
theorem star_cons {e : Expr} {es : List Expr} {env : Env} (h : notStar e = true) : starEach (e :: es) env = (false, eval e env) :: starEach es env := by
  cases e <;> first | rfl | simp [notStar] at h
theorem asg_cons {e : Expr} {es : List Expr} {env : Env} (h : notStar e = true) : assignEach (e :: es) env = (false, assign e env) :: assignEach es env := by
  cases e <;> first | rfl | simp [notStar] at h
theorem plainIx_of {e : Expr} (h : notSlice e = true) : PlainIx e := by
  intro o i
  cases e <;> first | rfl | simp [notSlice] at h
theorem sw_false {e : Expr} {t : Option Expr} {n : Nat} {env : Env} (h : notComp e = true) : swapsWith e t n env = pure false := by
  cases e <;> first | rfl | simp [notComp] at h
theorem sws_false {e o i : Expr} {p : Pos} {n : Nat} {env : Env} : swapsWithSole [.Subscript o i p] e n env = pure false := by
  cases e <;> rfl
theorem swt_false {e : Expr} {es : List Expr} {k : Nat} {p : Pos} {n : Nat} {env : Env} : swapsWithSole [.Tuple es k p] e n env = pure false := by
  cases e <;> rfl
theorem folded_of {e : Expr} {env : Env} (h : notSet e = true) (x : Value) : foldedSetIterable e env x = pure x := by
  cases e <;> first | rfl | simp [notSet] at h
theorem base_of {o : Expr} {n : Str} {env : Env} (h : baseB o = true) : attributeBase o n env (eval o env) = eval o env := by
  cases o <;> first | rfl | simp [baseB] at h
theorem plainT_of {e : Expr} {env : Env} (h : plainT e = true) (whole : Sem Value) : isTrue e env whole = (do let v ← whole; standAt e.pos; holding [v] (truthy v)) := by
  cases e <;> first | rfl | simp [plainT] at h
theorem back_any {es : List Expr} {env : Env} {pos : Pos} : (∀ e ∈ es, notStar e = true) → (backTo pos (starEach es env)).any (·.1) = false := by
  induction es with
  | nil => intro _; rfl
  | cons e es ih =>
    intro h
    rw [star_cons (h e (by simp))]
    simp only [backTo, List.map_cons, List.any_cons, Bool.false_or]
    exact ih fun x hx => h x (by simp [hx])
theorem sws_none {o i e : Expr} {p : Pos} {env : Env} : swappedStores [.Subscript o i p] e env = pure none := rfl
theorem swt_none {e : Expr} {es : List Expr} {k : Nat} {p : Pos} {env : Env} (h : notTup e = true) : swappedStores [.Tuple es k p] e env = pure none := by
  cases e <;> first | rfl | simp [notTup] at h
/-- a target that is a cell: the tuple is made and taken apart -/
def cellT (sc : Scope) (es : List Expr) : Bool := es.any fun e => match e with
  | .Name x _ => (match sc.names.lookup x with | some .cell => true | _ => false)
  | _ => false
theorem swt_cell {es vs : List Expr} {k k2 : Nat} {p p2 : Pos} {env : Env} (h : ∃ x p, Expr.Name x p ∈ es ∧ env.kindOf x = some .cell) : swappedStores [.Tuple es k p] (.Tuple vs k2 p2) env = pure none := by
  obtain ⟨x, px, hm, hk⟩ := h
  have hlt : ∀ line : Nat, (es.filterMap fun e => match e with | .Name id pos => if (env.kindOf id == some .local && pos.line == line) = true then some id else none | _ => none).length < es.length := by
    intro line
    induction es with
    | nil => simp at hm
    | cons e es ih =>
      have hle : (es.filterMap fun e => match e with | .Name id pos => if (env.kindOf id == some .local && pos.line == line) = true then some id else none | _ => none).length ≤ es.length := List.length_filterMap_le _ _
      rcases List.mem_cons.mp hm with h | h
      · subst h
        rw [List.filterMap_cons_none]
        · simp only [List.length_cons]; omega
        · simp only [hk]; rfl
      · have i := ih h
        rw [List.filterMap_cons]
        split <;> simp only [List.length_cons] <;> omega
  simp only [swappedStores, pure_bind]
  split
  · rfl
  · split
    · rfl
    · have := hlt ((es.head?.map (·.pos.line)).getD 0)
      split
      · rfl
      · rename_i hn
        exfalso
        apply hn
        simp only [Bool.or_eq_true, bne_iff_ne, ne_eq]
        exact .inl (Nat.ne_of_lt this)
end G

set_option Elab.async false
set_option linter.all false
set_option autoImplicit false
set_option maxRecDepth 100000
set_option maxHeartbeats 4000000
/-! Soundness, part 12: expressions, whole. -/
namespace G
open PySem PySem.Spec PyProof.Rows L2

structure Ctx (T : Tab) (Tb : Nat → Option Fn) (fa : FW) (ex : Nat → Addr) (CX : CXT) (k : Nat) (XE : XP) (X : Cx) (sc : Scope) : Prop where
  wld : fa.w = X.w
  prg : fa.p = X.prog
  calm : X.calm = true
  nd : X.N.Nodup
  kind : X.env.scope.kind = .function
  sc1 : ∀ x nk, sc.names.lookup x = some nk → nk ≠ .free → X.env.scope.names.lookup x = some nk
  sc2 : ∀ x, sc.names.lookup x = some .free → X.env.scope.names.lookup x = some .free ∨ X.env.scope.names.lookup x = some .cell
  fn : ∀ x, sc.names.lookup x = some .cell → X.fn x = true
  room : Room k X.A
  blt : ∀ x ∈ bltNames, X.mg x = none
  con : ∀ nm s x, (nm, s, x) ∈ T.g → ∃ u v, X.mg s = some u ∧ RelV v u ∧ ∀ m H, Rl X.K fa m H x v
  fns : ∀ f s, (f, s) ∈ T.f → FnAt X.prog X.w X.K X.mg X.base CX fa ex Tb k f s
  kfn : ∀ f s, (f, s) ∈ T.k → KeyFn X.K X.mg s
  dom : ∀ f a, fa.f f = some a → ∃ s, (f, s) ∈ T.f
  cls : T.c = true → Cls X.K fa.c ∧ NoAttr X.K fa.c "spec" ∧ NoAttr X.K fa.c "rows"
  mth : ∀ f m, (f, m) ∈ T.h → ∃ (a : Addr) (fd : FuncData) (ps : List Str), Meth X.K fa.c m a ∧ Binds X.K fd ps [] ∧ FnOk X.prog X.w X.K X.mg X.base CX k a fd ps (spF X.K fa ex Tb k f)
  mkr : ∀ f g s, (f, g, s) ∈ T.m → Tb f = some ⟨1, 1, [.mkS g]⟩ ∧ X.mg s = some (.ref fa.c) ∧ ∃ a : Addr, Mk X.K fa.c a ∧ ∀ j, k = j + 1 → ∃ (fd : FuncData) (ps : List Str), Binds X.K fd ps [] ∧ FnOk X.prog X.w X.K X.mg X.base CX j a fd ps (spF X.K fa ex Tb j g)
  cxF : ∀ (o : List Env) (H : Hp) (s : Shared) (e : Value) (s' : Shared), CX o H s (EK ex F0) e s' → False
  pass : Passes CX X (EK ex XE)
  own : PassesOwn (model X.prog X.w) X.A X.env X.xe
  rse : ∀ c s, (c, s) ∈ T.x → Gl X s → okN s = true → ∀ p p2 p3, PS X (.Raise (some (.Call (.Name s p) [] [] p2)) none p3) (fun _ _ H => XE c H)

section
variable {T : Tab} {Tb : Nat → Option Fn} {fa : FW} {ex : Nat → Addr} {CX : CXT} {k : Nat} {XE : XP} {X : Cx} {sc : Scope}
theorem Ctx.vis (c : Ctx T Tb fa ex CX k XE X sc) {x : Str} (h : visB sc x = true) : Vis X.env.scope x := by
  unfold visB at h
  cases q : sc.names.lookup x with
  | none => rw [q] at h; cases h
  | some nk =>
    rw [q] at h
    cases nk with
    | «local» => exact .inl (c.sc1 x _ q (by decide))
    | cell => exact .inr (.inl (c.sc1 x _ q (by decide)))
    | free =>
      rcases c.sc2 x q with h | h
      · exact .inr (.inr h)
      · exact .inr (.inl h)
    | _ => cases h
theorem Ctx.loc (c : Ctx T Tb fa ex CX k XE X sc) {x : Str} (h : locB sc x = true) : Loc X.env.scope x ∧ (X.fn x = true ∨ X.env.scope.names.lookup x = some .local) := by
  unfold locB at h
  cases q : sc.names.lookup x with
  | none => rw [q] at h; cases h
  | some nk =>
    rw [q] at h
    cases nk with
    | «local» => exact ⟨.inl (c.sc1 x _ q (by decide)), .inr (c.sc1 x _ q (by decide))⟩
    | cell => exact ⟨.inr (c.sc1 x _ q (by decide)), .inl (c.fn x q)⟩
    | _ => cases h
theorem Ctx.lcl (c : Ctx T Tb fa ex CX k XE X sc) {x : Str} (h : lclB sc x = true) : X.env.scope.names.lookup x = some .local := by
  unfold lclB at h
  cases q : sc.names.lookup x with
  | none => rw [q] at h; cases h
  | some nk =>
    rw [q] at h
    cases nk with
    | «local» => exact c.sc1 x _ q (by decide)
    | _ => cases h
theorem Ctx.gl (c : Ctx T Tb fa ex CX k XE X sc) {x : Str} (h : glB sc x = true) : Gl X x := by
  unfold glB at h
  cases q : sc.names.lookup x with
  | none => rw [q] at h; cases h
  | some nk =>
    rw [q] at h
    cases nk with
    | globalImplicit => exact c.sc1 x _ q (by decide)
    | _ => cases h
theorem okN_db {x : Str} (h : okN x = true) : (x == ("__debug__" : Str)) = false ∧ (x == ("__classdict__" : Str)) = false ∧ x ≠ ("__name__" : Str) := by
  unfold okN at h
  simp only [Bool.and_eq_true, Bool.not_eq_true', decide_eq_true_eq] at h
  exact ⟨h.1, h.2.1, h.2.2⟩
theorem Ctx.u65 (c : Ctx T Tb fa ex CX k XE X sc) : X.A.units + 65 < cLine := by have := c.room.un; omega
theorem lookup_rel {names : List (Str × NameKind)} {env : Env} {x : Str} : (names.map fun (n, k) => if (k == NameKind.free && env.scope.kind == .function && env.kindOf n == some .cell) then (n, NameKind.cell) else (n, k)).lookup x =
    (names.lookup x).map fun k => if (k == NameKind.free && env.scope.kind == .function && env.kindOf x == some .cell) then .cell else k := by
  induction names with
  | nil => rfl
  | cons p r ih =>
    obtain ⟨n, k⟩ := p
    by_cases hx : x = n
    · subst hx
      by_cases hc : (k == NameKind.free && env.scope.kind == .function && env.kindOf x == some .cell) = true
      · rw [List.map_cons]
        show List.lookup x ((if _ then _ else _) :: _) = _
        rw [if_pos hc, List.lookup_cons_self, List.lookup_cons_self, Option.map_some, if_pos hc]
      · rw [List.map_cons]
        show List.lookup x ((if _ then _ else _) :: _) = _
        rw [if_neg hc, List.lookup_cons_self, List.lookup_cons_self, Option.map_some, if_neg hc]
    · have hx' : (x == n) = false := beq_eq_false_iff_ne.mpr hx
      rw [List.map_cons]
      show List.lookup x ((if _ then _ else _) :: _) = _
      by_cases hc : (k == NameKind.free && env.scope.kind == .function && env.kindOf n == some .cell) = true
      · rw [if_pos hc, List.lookup_cons, List.lookup_cons, hx']; exact ih
      · rw [if_neg hc, List.lookup_cons, List.lookup_cons, hx']; exact ih
/-- the block of a comprehension -/
theorem Ctx.blk (c : Ctx T Tb fa ex CX k XE X sc) {scope : Scope} {own : List (Str × Nat)} (ok : BlkOk X.N X.env.scope scope own) (s : Shared) (H : Hp) (C : Addr) (cl : List (Str × Addr)) (fp : List Addr) :
    Ctx T Tb fa ex CX k F0 (X.blk s H scope (compEnvC scope cl C X.env) fp) scope where
  wld := c.wld
  prg := c.prg
  calm := c.calm
  nd := c.nd
  kind := ok.kind
  sc1 := fun x nk h hn => by
    show (scope.names.map _).lookup x = _
    rw [lookup_rel, h]
    cases nk <;> first | rfl | exact absurd rfl hn
  sc2 := fun x h => by
    show (scope.names.map _).lookup x = _ ∨ (scope.names.map _).lookup x = _
    rw [lookup_rel, h]
    simp only [Option.map_some]
    split
    · exact .inr rfl
    · exact .inl rfl
  fn := fun x h => by show (scope.names.lookup x == some .cell) = true; rw [h]; rfl
  room := c.room
  blt := c.blt
  con := c.con
  fns := c.fns
  kfn := c.kfn
  dom := c.dom
  cls := c.cls
  mth := c.mth
  mkr := c.mkr
  cxF := c.cxF
  pass := fun pins σ H s e s' I h => c.cxF _ _ _ _ _ h
  own := PassesOwn.never
  rse := fun c s _ _ _ p p2 p3 => ps_of ps_never fun _ _ _ h => h
theorem Ctx.blkOk (c : Ctx T Tb fa ex CX k XE X sc) {scope : Scope} {own : List (Str × Nat)} (h : blkC X.N sc scope own = true) : BlkOk X.N X.env.scope scope own := by
  have ok := blkOk_by h
  exact ⟨ok.kind, ok.uniq, ok.ix, fun y hy e => by
    rcases ok.free y hy e with h | h
    · exact .inl (c.sc1 _ _ h (by decide))
    · exact (c.sc2 _ h).symm, ok.own⟩
theorem own_vars {N : List Str} {vs : List Nat} : (ownOf N vs).map (·.2) = vs := by simp [ownOf, Function.comp_def]

mutual
theorem sndG : ∀ (t : Tg) {XE : XP} {X : Cx} {sc : Scope} {e : Expr}, Ctx T Tb fa ex CX k XE X sc → chkG X.N sc t e = true → PG X e (rdG X.K fa t)
  | .nm i, XE, X, sc, e, c, h => by
    cases e with
    | Name x p =>
      simp only [chkG, Bool.and_eq_true, decide_eq_true_eq] at h
      obtain ⟨h1, h2⟩ := c.loc h.2
      exact g_name (pg_name c.nd h.1 h1 h2)
    | _ => simp [chkG] at h
  | .tup ts, XE, X, sc, e, c, h => by
    cases e with
    | Tuple es n p =>
      simp only [chkG] at h
      obtain ⟨h1, h2, h3, h4⟩ := sndGs ts c h
      exact g_tup c.calm h1 h2 h3 h4
    | _ => simp [chkG] at h
theorem sndGs : ∀ (ts : List Tg) {XE : XP} {X : Cx} {sc : Scope} {es : List Expr}, Ctx T Tb fa ex CX k XE X sc → chkGs X.N sc ts es = true → PGs X es (rdGs X.K fa ts) ∧ (assignEach es X.env).length = es.length ∧ (assignEach es X.env).findIdx? (·.1) = none ∧ ts.length = es.length
  | [], XE, X, sc, es, c, h => by
    cases es with
    | nil => exact ⟨gs_nil, rfl, rfl, rfl⟩
    | cons _ _ => simp [chkGs] at h
  | t :: ts, XE, X, sc, es, c, h => by
    cases es with
    | nil => simp [chkGs] at h
    | cons e es =>
      simp only [chkGs, Bool.and_eq_true] at h
      obtain ⟨h1, h2, h3, h4⟩ := sndGs ts c h.2.2
      have hs := asg_cons (es := es) (env := X.env) h.1
      refine ⟨gs_cons (sndG t c h.2.1) h1 (by rw [hs]; rfl), by rw [hs]; simp [h2], by rw [hs]; simp [List.findIdx?_cons, h3], by simp [h4]⟩
end

theorem bin_ok (u : X.A.units + 65 < cLine) : ∀ {o : Op} {po : Operator}, binB o po = true → OpR X (binaryOp po) (ROp X.K fa (opD o))
  | .add, po, h => by cases po <;> simp only [binB, Bool.false_eq_true] at h; exact add_ok
  | .sub, po, h => by cases po <;> simp only [binB, Bool.false_eq_true] at h; exact sub_ok
  | .mul, po, h => by cases po <;> simp only [binB, Bool.false_eq_true] at h; exact mul_ok
  | .fdiv, po, h => by cases po <;> simp only [binB, Bool.false_eq_true] at h; exact fdiv_ok
  | .mod, po, h => by cases po <;> simp only [binB, Bool.false_eq_true] at h; exact mod_ok
  | .pow, po, h => by cases po <;> simp only [binB, Bool.false_eq_true] at h; exact pow_ok
  | .eq, po, h | .ne, po, h | .lt, po, h | .le, po, h | .gt, po, h | .ge, po, h | .is_, po, h | .isnot, po, h | .in_, po, h | .notin, po, h | .ix, po, h => by cases po <;> simp [binB] at h
theorem cmp_ok (hp : fa.p = X.prog) (hw : fa.w = X.w) (u : X.A.units + 65 < cLine) : ∀ {o : Op} {co : CmpOp}, cmpB o co = true → OpR X (compareOp co) (ROp X.K fa (opD o))
  | .eq, co, h => by cases co <;> simp only [cmpB, Bool.false_eq_true] at h; exact eq_ok u
  | .ne, co, h => by cases co <;> simp only [cmpB, Bool.false_eq_true] at h; exact ne_ok u
  | .lt, co, h => by cases co <;> simp only [cmpB, Bool.false_eq_true] at h; exact lt_ok
  | .le, co, h => by cases co <;> simp only [cmpB, Bool.false_eq_true] at h; exact le_ok
  | .gt, co, h => by cases co <;> simp only [cmpB, Bool.false_eq_true] at h; exact gt_ok
  | .ge, co, h => by cases co <;> simp only [cmpB, Bool.false_eq_true] at h; exact ge_ok
  | .is_, co, h => by cases co <;> simp only [cmpB, Bool.false_eq_true] at h; exact is_ok
  | .isnot, co, h => by cases co <;> simp only [cmpB, Bool.false_eq_true] at h; exact isnot_ok
  | .in_, co, h => by cases co <;> simp only [cmpB, Bool.false_eq_true] at h; exact in_ok hp hw u
  | .notin, co, h => by cases co <;> simp only [cmpB, Bool.false_eq_true] at h; exact notin_ok hp hw u
  | .add, co, h | .sub, co, h | .mul, co, h | .fdiv, co, h | .mod, co, h | .pow, co, h | .ix, co, h => by cases co <;> simp [cmpB] at h

theorem const_ok {v : Const} {x : D} {j : Nat} {p : Pos} (h : constB v x = true) : PE X (.Constant v j p) (rdE X.K fa XE fun _ M => .ok (.d x) M) := by
  cases v <;> cases x <;> simp only [constB, Bool.false_eq_true] at h
  · exact r_const pe_non fun m H => by simp [Rl]
  · have := eq_of_beq h; subst this; exact r_const pe_bl fun m H => by simp [Rl]
  · have := of_decide_eq_true h; subst this; exact r_const pe_int fun m H => by simp [Rl]
  · have := of_decide_eq_true h; subst this; exact r_const pe_str fun m H => by simp [Rl]
theorem ev_un (f : D → Option D) (ea : Sl → Mem → R W) : ev1 f ea = fun σ M => (ea σ M).bind fun w M => ofO (asD M w) fun x => ofO (f x) fun y => .ok (.d y) M := rfl
theorem bi_ok (c : Ctx T Tb fa ex CX k XE X sc) {b : Bi} {f : Str} {e : Expr} {es : List Expr} {p pos : Pos} {evs : Sl → Mem → R (List W)} (hn : (match biName b with | some n => decide (f = Str.ofString n) | none => false) = true) (hg : glB sc f = true) (ha : PA X (e :: es) (rdA X.K fa XE evs)) (hs : ∀ x ∈ e :: es, notStar x = true) :
    PE X (.Call (.Name f p) (e :: es) [] pos) (rdE X.K fa XE (evBi (biD b) evs)) := by
  have h1 := star_cons (es := es) (env := X.env) (hs e (by simp))
  have h2 := back_any (pos := pos) (env := X.env) (es := es) fun x hx => hs x (by simp [hx])
  have g := c.gl hg
  cases b <;> simp only [biName, Bool.false_eq_true, decide_eq_true_eq] at hn <;> subst hn
  · exact r_biB len_ok g (c.blt _ (by decide +kernel)) (by decide +kernel) ha (by decide +kernel) (by decide +kernel) h1 h2
  · exact r_biT str_ok g (c.blt _ (by decide +kernel)) (by decide +kernel) ha (by decide +kernel) (by decide +kernel) h1 h2
  · exact r_biT int_ok g (c.blt _ (by decide +kernel)) (by decide +kernel) ha (by decide +kernel) (by decide +kernel) h1 h2
  · exact r_biB (all_ok c.calm) g (c.blt _ (by decide +kernel)) (by decide +kernel) ha (by decide +kernel) (by decide +kernel) h1 h2
  · exact r_biT tuple_ok g (c.blt _ (by decide +kernel)) (by decide +kernel) ha (by decide +kernel) (by decide +kernel) h1 h2
  · exact r_biB (sum_ok c.calm) g (c.blt _ (by decide +kernel)) (by decide +kernel) ha (by decide +kernel) (by decide +kernel) h1 h2
  · exact r_biB (max2_ok c.calm) g (c.blt _ (by decide +kernel)) (by decide +kernel) ha (by decide +kernel) (by decide +kernel) h1 h2
theorem isi_rule (c : Ctx T Tb fa ex CX k XE X sc) {b : Bi} {f t : Str} {x : Expr} {p p2 pos : Pos} {ea : Sl → Mem → R W} (hf : f = ("isinstance" : Str)) (hn : (match isName b with | some n => decide (t = Str.ofString n) | none => false) = true) (hg : glB sc f = true) (hgt : glB sc t = true) (ha : PE X x (rdE X.K fa XE ea)) (hs : notStar x = true) :
    PE X (.Call (.Name f p) [x, .Name t p2] [] pos) (rdE X.K fa XE (ev1 (fun y => biD b [y]) ea)) := by
  subst hf
  have h1 := star_cons (es := [.Name t p2]) (env := X.env) hs
  have g := c.gl hg
  have gt := c.gl hgt
  cases b <;> simp only [isName, Bool.false_eq_true, decide_eq_true_eq] at hn <;> subst hn
  · exact r_isi (T := "int") (x := "") rfl g (c.blt _ (by decide +kernel)) gt (c.blt _ (by decide +kernel)) (by decide +kernel) (by decide +kernel) (by decide +kernel) ha h1
  · exact r_isi (T := "bool") (x := "") rfl g (c.blt _ (by decide +kernel)) gt (c.blt _ (by decide +kernel)) (by decide +kernel) (by decide +kernel) (by decide +kernel) ha h1
  · exact r_isi (T := "str") (x := "") rfl g (c.blt _ (by decide +kernel)) gt (c.blt _ (by decide +kernel)) (by decide +kernel) (by decide +kernel) (by decide +kernel) ha h1
  · exact r_isi (T := "tuple") (x := "") rfl g (c.blt _ (by decide +kernel)) gt (c.blt _ (by decide +kernel)) (by decide +kernel) (by decide +kernel) (by decide +kernel) ha h1
  · exact r_isi (T := "list") (x := "") rfl g (c.blt _ (by decide +kernel)) gt (c.blt _ (by decide +kernel)) (by decide +kernel) (by decide +kernel) (by decide +kernel) ha h1
theorem sorted_rule (c : Ctx T Tb fa ex CX k XE X sc) {x : Expr} {p pos : Pos} {ea : Sl → Mem → R W} (hg : glB sc "sorted" = true) (ha : PE X x (rdE X.K fa XE ea)) (hs : notStar x = true) : PE X (.Call (.Name "sorted" p) [x] [] pos) (rdE X.K fa XE (ev1 sortedD ea)) := by
  have h1 := star_cons (es := []) (env := X.env) hs
  refine pe_of (pe_callB (sorted_ok (fa := fa) c.u65) (c.gl hg) (c.blt _ (by decide +kernel)) (by decide +kernel) (pa_cons ha pa_nil h1) (by decide +kernel) (by decide +kernel) h1 rfl) fun σ H Q ⟨ρ, σ', M, sl, rp, q⟩ => ?_
  refine ⟨ρ, σ', M, sl, rp, (Post.bind q).mono fun v H1 ⟨w, ρ1, M1, t1, rp1, rl1, q1⟩ => ?_⟩
  obtain ⟨y, e1, q1⟩ := Post.of q1
  obtain ⟨z, e2, q1⟩ := Post.val q1 rp1
  exact ⟨mu ρ1, [y], z, fun a h => rp1.dom h, ⟨v, [], rfl, rl1.vw rp1 e1, rfl⟩, e2, q1⟩
theorem meth_rule (c : Ctx T Tb fa ex CX k XE X sc) {m : Mt} {n : Str} {o x : Expr} {apos cpos : Pos} {ea : Sl → Mem → R W} {evs : Sl → Mem → R (List W)} (hn : (match mtName m with | some s => decide (n = Str.ofString s) | none => false) = true) (ho : PE X o (rdE X.K fa XE ea)) (ha : PA X [x] (rdA X.K fa XE evs)) (hs : notStar x = true)
    (hb : baseB o = true) (hl : (apos.endLine == cpos.line) = true) : PE X (.Call (.Attribute o n apos) [x] [] cpos) (rdE X.K fa XE (evMeth m ea evs)) := by
  have h1 := star_cons (es := []) (env := X.env) hs
  have hbase : ∀ n, attributeBase o n X.env (eval o X.env) = eval o X.env := fun n => base_of hb
  have hfew : ((backTo cpos (starEach [x] X.env)).all (fun x => !x.1) && (backToKw cpos (keywordEach [] X.env)).all (fun x => x.1.isSome) && decide (([x] : List Expr).length + ([] : List Keyword).length + (if ([] : List Keyword).isEmpty then 0 else 1) < 30)) = true := by
    rw [h1]; rfl
  cases m <;> simp only [mtName, Bool.false_eq_true, decide_eq_true_eq] at hn <;> subst hn
  · exact pe_of (pe_bm PySem.F.plainAttrs_list PySem.F.slot_list_append PySem.F.type_list_append (append_ok (fa := fa) (XE := XE)) ho ha (hbase _) hfew hl h1 rfl) fun _ _ _ q => t_meth q
  · exact pe_of (pe_bm PySem.F.plainAttrs_list PySem.F.slot_list_extend PySem.F.type_list_extend (extend_ok (fa := fa) (XE := XE)) ho ha (hbase _) hfew hl h1 rfl) fun _ _ _ q => t_meth q
  · exact pe_of (pe_bm PySem.F.plainAttrs_list PySem.F.slot_list_pop PySem.F.type_list_pop (popAt_ok (fa := fa) (XE := XE)) ho ha (hbase _) hfew hl h1 rfl) fun _ _ _ q => t_meth q
theorem insert_rule (c : Ctx T Tb fa ex CX k XE X sc) {o x y : Expr} {apos cpos : Pos} {ea : Sl → Mem → R W} {evs : Sl → Mem → R (List W)} (ho : PE X o (rdE X.K fa XE ea)) (ha : PA X [x, y] (rdA X.K fa XE evs)) (hs : notStar x = true) (hs2 : notStar y = true)
    (hb : baseB o = true) (hl : (apos.endLine == cpos.line) = true) : PE X (.Call (.Attribute o "insert" apos) [x, y] [] cpos) (rdE X.K fa XE (evMeth .insert ea evs)) := by
  have h1 := star_cons (es := [y]) (env := X.env) hs
  have h2 := star_cons (es := []) (env := X.env) hs2
  have hfew : ((backTo cpos (starEach [x, y] X.env)).all (fun x => !x.1) && (backToKw cpos (keywordEach [] X.env)).all (fun x => x.1.isSome) && decide (([x, y] : List Expr).length + ([] : List Keyword).length + (if ([] : List Keyword).isEmpty then 0 else 1) < 30)) = true := by
    rw [h1, h2]; rfl
  exact pe_of (pe_bm PySem.F.plainAttrs_list PySem.F.slot_list_insert PySem.F.type_list_insert (insert_ok (fa := fa) (XE := XE)) ho ha (base_of hb) hfew hl h1 (by rw [h2]; rfl)) fun _ _ _ q => t_meth q
theorem call_rule (c : Ctx T Tb fa ex CX k XE X sc) {f : Nat} {s : Str} {xs : List Expr} {p pos : Pos} {evs : Sl → Mem → R (List W)} (hg : glB sc s = true) (ho : okN s = true) (hf : (T.f.any fun q => q.1 == f && decide (q.2 = s)) = true) (ha : PA X xs (rdA X.K fa XE evs)) (hs : ∀ x ∈ xs, notStar x = true) (h0 : xs = [] → ∀ σ M, evs σ M = .ok [] M) :
    PE X (.Call (.Name s p) xs [] pos) (rdE X.K fa XE fun σ M => (evs σ M).bind fun ws M => call Tb k f ws M) := by
  obtain ⟨⟨f', s'⟩, hm, hq⟩ := List.any_eq_true.mp hf
  simp only [Bool.and_eq_true, beq_iff_eq, decide_eq_true_eq] at hq
  obtain ⟨rfl, rfl⟩ := hq
  have F := c.fns _ _ hm
  have db := (okN_db ho).1
  cases xs with
  | nil =>
    have := r_call0 (pos := pos) (p := p) F c.room (c.gl hg) c.pass db
    have e : (fun σ M => (evs σ M).bind fun ws M => call Tb k f' ws M) = fun σ M => (R.ok [] M).bind fun ws M => call Tb k f' ws M := by funext σ M; rw [h0 rfl]
    rw [e]; exact this
  | cons x xs => exact r_call F c.room (c.gl hg) c.pass ha db (star_cons (hs x (by simp))) (back_any fun y hy => hs y (by simp [hy]))
theorem str_rule (c : Ctx T Tb fa ex CX k XE X sc) {b : Bi} {o x : Expr} {m : Str} {apos pos : Pos} {ea : Sl → Mem → R W} (hb : strB b o m x = true) (ha : PE X (strA m o x) (rdE X.K fa XE ea)) (hs : notStar (strA m o x) = true) (hbs : baseB (strA m o x) = true) (hl : (apos.endLine == pos.line) = true) :
    PE X (.Call (.Attribute o m apos) [x] [] pos) (rdE X.K fa XE (ev1 (fun y => biD b [y]) ea)) := by
  unfold strB at hb
  split at hb
  · simp only [Bool.and_eq_true, decide_eq_true_eq] at hb
    obtain ⟨rfl, rfl⟩ := hb
    simp only [strA, if_true] at ha hs
    exact r_join ha (star_cons (es := []) hs) hl
  · simp only [Bool.and_eq_true, decide_eq_true_eq] at hb
    obtain ⟨rfl, rfl⟩ := hb
    have ne : ¬ (("split" : Str) = "join") := by decide +kernel
    simp only [strA, if_neg ne] at ha hbs
    exact r_split ha (base_of hbs) hl
  · cases hb
theorem make_rule (c : Ctx T Tb fa ex CX k XE X sc) {f : Nat} {s : Str} {x : Expr} {p pos : Pos} {ee : Sl → Mem → R W} (hg : glB sc s = true) (ho : okN s = true) (hf : (T.m.any fun q => q.1 == f && decide (q.2.2 = s)) = true) (he : PE X x (rdE X.K fa XE ee)) (hs : notStar x = true) :
    PE X (.Call (.Name s p) [x] [] pos) (rdE X.K fa XE fun σ M => (ee σ M).bind fun w M => call Tb k f [w] M) := by
  obtain ⟨⟨f', g, s'⟩, hm, hq⟩ := List.any_eq_true.mp hf
  simp only [Bool.and_eq_true, beq_iff_eq, decide_eq_true_eq] at hq
  obtain ⟨rfl, rfl⟩ := hq
  obtain ⟨h1, h2, a, h3, h4⟩ := c.mkr _ _ _ hm
  have db := (okN_db ho).1
  have st := star_cons (es := []) (env := X.env) hs
  cases hk : k with
  | zero => exact r_make0 h3.kp (c.gl hg) h2 he db st
  | succ j =>
    obtain ⟨fd, ps, h5, h6⟩ := h4 j hk
    exact r_make h1 h3 h5 h6 (hk ▸ c.room) (c.gl hg) h2 c.pass he db st
theorem few_of {xs : List Expr} {env : Env} {pos : Pos} (hs : ∀ x ∈ xs, notStar x = true) (hl : xs.length < 30) :
    ((backTo pos (starEach xs env)).all (fun x => !x.1) && (backToKw pos (keywordEach [] env)).all (fun x => x.1.isSome) && decide (xs.length + ([] : List Keyword).length + (if ([] : List Keyword).isEmpty then 0 else 1) < 30)) = true := by
  have h1 : (backTo pos (starEach xs env)).all (fun x => !x.1) = true := by
    have := back_any (pos := pos) (env := env) hs
    rw [List.all_eq_not_any_not]
    simpa using this
  rw [h1]
  have h2 : decide (xs.length + ([] : List Keyword).length + (if ([] : List Keyword).isEmpty then 0 else 1) < 30) = true := by simpa using hl
  rw [h2]
  rfl
theorem mcall_rule (c : Ctx T Tb fa ex CX k XE X sc) {f : Nat} {n xn : Str} {xs : List Expr} {p apos pos : Pos} {ea : Sl → Mem → R W} {evs : Sl → Mem → R (List W)} (hc : T.c = true) (hf : (T.h.any fun q => q.1 == f && decide (q.2 = n)) = true) (ho : PE X (.Name xn p) (rdE X.K fa XE ea)) (ha : PA X xs (rdA X.K fa XE evs)) (hs : ∀ x ∈ xs, notStar x = true) (h0 : xs = [] → evs = fun _ M => .ok [] M)
    (hl : (apos.endLine == pos.line) = true) (hn : methB n = true) (hx : xs.length < 30) : PE X (.Call (.Attribute (.Name xn p) n apos) xs [] pos) (rdE X.K fa XE (evMc ea evs (call Tb k f))) := by
  obtain ⟨⟨f', n'⟩, hm, hq⟩ := List.any_eq_true.mp hf
  simp only [Bool.and_eq_true, beq_iff_eq, decide_eq_true_eq] at hq
  obtain ⟨rfl, rfl⟩ := hq
  obtain ⟨a, fd, ps, h1, h2, h3⟩ := c.mth _ _ hm
  obtain ⟨k1, _, _⟩ := c.cls hc
  simp only [methB, Bool.and_eq_true, decide_eq_true_eq] at hn
  cases xs with
  | nil => rw [h0 rfl]; exact r_mcall0 k1 h1 h2 h3 c.room c.pass hn.1 hn.2 ho hl
  | cons x xs => exact r_mcall k1 h1 h2 h3 c.room c.pass hn.1 hn.2 ho ha (star_cons (hs x (by simp))) (back_any fun y hy => hs y (by simp [hy])) hl (few_of hs hx)
theorem chkEs_star {T : Tab} {N : List Str} : ∀ {ms : List Ex} {es : List Expr}, chkEs T N sc ms es = true → (∀ x ∈ es, notStar x = true) ∧ ms.length = es.length
  | [], [], _ => ⟨by simp, rfl⟩
  | [], _ :: _, h => by simp [chkEs] at h
  | _ :: _, [], h => by simp [chkEs] at h
  | m :: ms, e :: es, h => by
    simp only [chkEs, Bool.and_eq_true] at h
    have ih := chkEs_star h.2.2
    refine ⟨fun x hx => ?_, by simp [ih.2]⟩
    rcases List.mem_cons.mp hx with e | e
    · subst e; exact h.1
    · exact ih.1 x e
theorem evDs_len (Γ : Nat → List W → Mem → R W) : ∀ (es : List Ex) (σ : Sl) (M : Mem) (ds : List D) (M' : Mem), evDs Γ es σ M = .ok ds M' → ds.length = es.length
  | [], σ, M, ds, M', h => by simp only [evDs, R.ok.injEq] at h; rw [← h.1]; rfl
  | e :: es, σ, M, ds, M', h => by
    simp only [evDs] at h
    cases h1 : evE Γ e σ M with
    | ok w M1 =>
      rw [h1] at h
      simp only [R.bind] at h
      cases h2 : evDs Γ es σ M1 with
      | ok xs M2 =>
        rw [h2] at h
        cases w with
        | d x =>
          simp only [R.ok.injEq] at h
          rw [← h.1]
          simp [evDs_len Γ es σ M1 xs M2 h2]
        | _ => simp at h
      | exc c M2 => rw [h2] at h; simp at h
      | bad => rw [h2] at h; simp at h
    | exc c M1 => rw [h1] at h; simp at h
    | bad => rw [h1] at h; simp at h
end
end G

set_option Elab.async false
set_option linter.all false
set_option autoImplicit false
set_option maxRecDepth 100000
set_option maxHeartbeats 4000000
/-! Soundness, part 13: every expression that passes the check. -/
namespace G
open PySem PySem.Spec PyProof.Rows L2
section
variable {T : Tab} {Tb : Nat → Option Fn} {fa : FW} {ex : Nat → Addr} {CX : CXT} {k : Nat}
theorem var_rule {XE : XP} {X : Cx} {sc : Scope} (c : Ctx T Tb fa ex CX k XE X sc) {i : Nat} {x : Str} {p : Pos} (h1 : X.N[i]? = some x) (h2 : visB sc x = true) (h3 : okN x = true) : PE X (.Name x p) (rdE X.K fa XE (evE (call Tb k) (.v i))) := by
  obtain ⟨d1, d2, _⟩ := okN_db h3
  have := r_var (fa := fa) (XE := XE) (pe_var (X := X) (pos := p) h1 (c.vis h2) d1 d2)
  have e : evE (call Tb k) (.v i) = fun σ M => match σ[i]? with
    | some (some w) => .ok w M
    | _ => .bad := by funext σ M; simp only [evE] <;> rfl
  rw [e]; exact this
theorem ev_bi (Γ : Nat → List W → Mem → R W) (b : Bi) (es : List Ex) : evE Γ (.bi b es) = evBi (biD b) (evEs Γ es) := by funext σ M; simp only [evE, evBi]
theorem ev_unE (Γ : Nat → List W → Mem → R W) (b : Bi) (a : Ex) : evE Γ (.un b a) = ev1 (fun x => biD b [x]) (evE Γ a) := by funext σ M; simp only [evE, ev1]
theorem ev_op (Γ : Nat → List W → Mem → R W) (o : Op) (a b : Ex) : evE Γ (.op o a b) = ev2 (opD o) (evE Γ a) (evE Γ b) := by funext σ M; simp only [evE, ev2]
theorem ev_chain (Γ : Nat → List W → Mem → R W) (o o' : Op) (a b c : Ex) : evE Γ (.chain o o' a b c) = evC (opD o) (opD o') (evE Γ a) (evE Γ b) (evE Γ c) := by funext σ M; simp only [evE, evC] <;> rfl
theorem ev_not (Γ : Nat → List W → Mem → R W) (a : Ex) : evE Γ (.not a) = evNot (evE Γ a) := by funext σ M; simp only [evE, evNot] <;> rfl
theorem ev_ife (Γ : Nat → List W → Mem → R W) (c a b : Ex) : evE Γ (.ife c a b) = evIf (evE Γ c) (evE Γ a) (evE Γ b) := by funext σ M; simp only [evE, evIf] <;> rfl
theorem ev_and2 (Γ : Nat → List W → Mem → R W) (m m2 : Ex) (ms : List Ex) : evAnd Γ (m :: m2 :: ms) = evAnd2 (evE Γ m) (evAnd Γ (m2 :: ms)) := by funext σ M; simp only [evAnd, evAnd2] <;> rfl
theorem ev_or2 (Γ : Nat → List W → Mem → R W) (m m2 : Ex) (ms : List Ex) : evOr Γ (m :: m2 :: ms) = evOr2 (evE Γ m) (evOr Γ (m2 :: ms)) := by funext σ M; simp only [evOr, evOr2] <;> rfl
theorem ev_call (Γ : Nat → List W → Mem → R W) (f : Nat) (es : List Ex) : evE Γ (.call f es) = fun σ M => (evEs Γ es σ M).bind fun ws M => Γ f ws M := by funext σ M; simp only [evE]
theorem ev_comp (Γ : Nat → List W → Mem → R W) (n : Nat) (t : Tg) (it : It) (cond : Option Ex) (elt : Ex) : evE Γ (.comp n t it cond elt) = fun σ M => (evComp t (evIt Γ it) (evCond Γ cond) (evE Γ elt) σ M).bind fun ds M => mkL n ds M := by
  funext σ M; simp only [evE, evComp, bind_assoc]
theorem ev_comp2 (Γ : Nat → List W → Mem → R W) (t t2 : Tg) (it it2 : It) (elt : Ex) : evE Γ (.comp2 t it t2 it2 elt) = fun σ M => (evComp2 t t2 (evIt Γ it) (evIt Γ it2) (evE Γ elt) σ M).bind fun ds M => mkL 0 ds M := by
  funext σ M; simp only [evE, evComp2, bind_assoc]
theorem ev_meth (Γ : Nat → List W → Mem → R W) (m : Mt) (a : Ex) (es : List Ex) : evE Γ (.meth m a es) = evMeth m (evE Γ a) (evEs Γ es) := by funext σ M; simp only [evE, evMeth]
theorem ev_seq (Γ : Nat → List W → Mem → R W) (a : Ex) : evIt Γ (.seq a) = evSeq (evE Γ a) := by funext σ M; simp only [evIt, evSeq]
theorem ev_cond0 (Γ : Nat → List W → Mem → R W) : evCond Γ none = fun _ M => .ok (.d (.bl true)) M := by funext σ M; simp only [evCond]
theorem ev_cond1 (Γ : Nat → List W → Mem → R W) (e : Ex) : evCond Γ (some e) = evE Γ e := by funext σ M; simp only [evCond]

theorem calll_rule {XE : XP} {X : Cx} {sc : Scope} (c : Ctx T Tb fa ex CX k XE X sc) {i : Nat} {x : Str} {p pos : Pos} {e : Expr} {es : List Expr} {ms : List Ex} (h1 : X.N[i]? = some x) (h2 : visB sc x = true) (h3 : okN x = true) (ha : PA X (e :: es) (rdA X.K fa XE (evEs (call Tb k) ms))) (hs : ∀ y ∈ e :: es, notStar y = true) :
    PE X (.Call (.Name x p) (e :: es) [] pos) (rdE X.K fa XE (evE (call Tb k) (.calll i ms))) := by
  obtain ⟨d1, d2, _⟩ := okN_db h3
  have e1 : evE (call Tb k) (.calll i ms) = fun σ M => match σ[i]? with
      | some (some (.d (.fn f))) => (evEs (call Tb k) ms σ M).bind fun ws M => call Tb k f ws M
      | _ => .bad := by funext σ M; simp only [evE] <;> rfl
  rw [e1]
  refine r_calll (fun f a hf => ?_) c.room h1 (c.vis h2) c.pass ha d1 d2 (star_cons (hs e (by simp))) (back_any fun y hy => hs y (by simp [hy]))
  obtain ⟨s, hm⟩ := c.dom f a hf
  exact ⟨s, c.fns f s hm⟩
theorem callx_rule {XE : XP} {X : Cx} {sc : Scope} (c : Ctx T Tb fa ex CX k XE X sc) {l r : Expr} {p pos : Pos} {e : Expr} {es : List Expr} {a : Ex} {ms : List Ex} (h1 : PE X (.Subscript l r p) (rdE X.K fa XE (evE (call Tb k) a))) (ha : PA X (e :: es) (rdA X.K fa XE (evEs (call Tb k) ms))) (hs : ∀ y ∈ e :: es, notStar y = true) :
    PE X (.Call (.Subscript l r p) (e :: es) [] pos) (rdE X.K fa XE (evE (call Tb k) (.callx a ms))) := by
  have e1 : evE (call Tb k) (.callx a ms) = fun σ M => (evE (call Tb k) a σ M).bind fun w M => match w with
      | .d (.fn f) => (evEs (call Tb k) ms σ M).bind fun ws M => call Tb k f ws M
      | _ => .bad := by funext σ M; simp only [evE] <;> rfl
  rw [e1]
  refine r_callx (fun f a hf => ?_) c.room c.pass h1 ha (star_cons (hs e (by simp))) (back_any fun y hy => hs y (by simp [hy]))
  obtain ⟨s, hm⟩ := c.dom f a hf
  exact ⟨s, c.fns f s hm⟩
theorem nilE_is {XE : XP} {X : Cx} {b : Expr} (h : nilE b = true) : PE X b (rdE X.K fa XE fun _ M => .ok (.d (.lst [])) M) ∧ behindInMarks .NotEq b = false := by
  cases b with
  | List xs p =>
    cases xs with
    | nil =>
      refine ⟨?_, rfl⟩
      have := r_lst (X := X) (fa := fa) (XE := XE) (n := 0) (pos := p) (evd := fun _ M => .ok [] M) (es := []) (pa_of pa_nil fun σ H Q ⟨ρ, σ', M, sl, rp, q⟩ => q.ok rp (by simp [Rls])) (by decide) (fun σ M ds M' h => by cases h; rfl)
      exact this
    | cons _ _ => simp [nilE] at h
  | _ => simp [nilE] at h
mutual
theorem sndE : ∀ (m : Ex) {XE : XP} {X : Cx} {sc : Scope} {e : Expr}, Ctx T Tb fa ex CX k XE X sc → chkE T X.N sc m e = true → PE X e (rdE X.K fa XE (evE (call Tb k) m))
  | .c x, XE, X, sc, e, c, h => by
    cases e with
    | Constant v j p =>
      simp only [chkE] at h
      have e1 : evE (call Tb k) (.c x) = fun _ M => .ok (.d x) M := by funext σ M; simp only [evE]
      rw [e1]; exact const_ok h
    | _ => simp [chkE] at h
  | .v i, XE, X, sc, e, c, h => by
    cases e with
    | Name x p =>
      simp only [chkE, Bool.and_eq_true, decide_eq_true_eq] at h
      exact var_rule c h.1 h.2.1 h.2.2
    | _ => simp [chkE] at h
  | .g nm x, XE, X, sc, e, c, h => by
    cases e with
    | Name s p =>
      simp only [chkE, Bool.and_eq_true] at h
      obtain ⟨⟨nm', s', x'⟩, hm, hq⟩ := List.any_eq_true.mp h.2.2
      simp only [Bool.and_eq_true, decide_eq_true_eq, beq_iff_eq] at hq
      obtain ⟨rfl, rfl, hq⟩ := hq
      have := D.same_eq hq
      subst this
      obtain ⟨u, v, h1, h2, h3⟩ := c.con _ _ _ hm
      have e1 : evE (call Tb k) (.g nm' x') = fun _ M => .ok (.d x') M := by funext σ M; simp only [evE]
      rw [e1]
      exact r_const (pe_glob (c.gl h.1) h1 h2 (okN_db h.2.1).1) h3
    | _ => simp [chkE] at h
  | .tup es, XE, X, sc, e, c, h => by
    cases e with
    | Tuple xs n p =>
      simp only [chkE, Bool.and_eq_true, decide_eq_true_eq] at h
      have e1 : evE (call Tb k) (.tup es) = fun σ M => (evDs (call Tb k) es σ M).bind fun ds M => .ok (.d (.tup ds)) M := by funext σ M; simp only [evE]
      rw [e1]
      exact r_tup (sndDs es c h.1) h.2 fun σ M ds M' hd => by rw [evDs_len _ _ _ _ _ _ hd, (chkEs_star h.1).2]
    | _ => simp [chkE] at h
  | .lst n es, XE, X, sc, e, c, h => by
    cases e with
    | List xs p =>
      simp only [chkE, Bool.and_eq_true, decide_eq_true_eq] at h
      have e1 : evE (call Tb k) (.lst n es) = fun σ M => (evDs (call Tb k) es σ M).bind fun ds M => mkL n ds M := by funext σ M; simp only [evE]
      rw [e1]
      exact r_lst (sndDs es c h.1) h.2 fun σ M ds M' hd => by rw [evDs_len _ _ _ _ _ _ hd, (chkEs_star h.1).2]
    | _ => simp [chkE] at h
  | .dnew, XE, X, sc, e, c, h => by
    cases e with
    | Dict ks vs p =>
      match ks, vs, h with
      | [], [], h =>
        have e1 : evE (call Tb k) .dnew = fun _ M => .ok (.r M.length) (M ++ [.dct []]) := by funext σ M; simp only [evE]
        rw [e1]; exact r_dnew
      | _ :: _, _, h => simp [chkE] at h
      | [], _ :: _, h => simp [chkE] at h
    | _ => simp [chkE] at h
  | .sortedK f a, XE, X, sc, e, c, h => by
    have e1 : evE (call Tb k) (.sortedK f a) = ev1 sortKD (evE (call Tb k) a) := by funext σ M; simp only [evE, ev1]
    rw [e1]
    cases e with
    | Call g xs kw p =>
      cases g with
      | Name g p2 =>
        match xs, kw, h with
        | [x], [⟨some kn, v, p4⟩], h =>
          cases v with
          | Name s p3 =>
            simp only [chkE, Bool.and_eq_true, decide_eq_true_eq] at h
            obtain ⟨rfl, rfl, h1, h2, h3, h4, h5, h6⟩ := h
            obtain ⟨⟨f', s'⟩, hm, hq⟩ := List.any_eq_true.mp h4
            simp only [Bool.and_eq_true, beq_iff_eq, decide_eq_true_eq] at hq
            obtain ⟨rfl, rfl⟩ := hq
            exact r_sortedK c.room (c.kfn _ _ hm) (c.gl h1) (c.blt _ (by decide +kernel)) (c.gl h2) (okN_db h3).1 (sndE a c h5) (star_cons h6)
          | _ => simp [chkE] at h
        | [x], [⟨none, v, p4⟩], h => simp [chkE] at h
        | [], _, h => simp [chkE] at h
        | _ :: _ :: _, _, h => simp [chkE] at h
        | [_], [], h => simp [chkE] at h
        | [_], _ :: _ :: _, h => simp [chkE] at h
      | _ => simp [chkE] at h
    | _ => simp [chkE] at h
  | .dcomp t it kk vv, XE, X, sc, e, c, h => by
    have e1 : evE (call Tb k) (.dcomp t it kk vv) = evDc t (evIt (call Tb k) it) (evE (call Tb k) kk) (evE (call Tb k) vv) := by funext σ M; simp only [evE, evDc]
    rw [e1]
    cases e with
    | DictComp kx vx gs scope p =>
      match gs, h with
      | [⟨tg, iter, [], as⟩], h =>
        simp only [chkE, Bool.and_eq_true, decide_eq_true_eq] at h
        obtain ⟨rfl, h1, h2, h3, h4, h5, h6⟩ := h
        have ok := c.blkOk h5
        exact r_dcomp c.prg c.wld c.calm c.nd (sndI it c h1) ok own_vars (fun s H C cl fp => sndG t (c.blk ok s H C cl fp) h2) (fun s H C cl fp => sndE kk (c.blk ok s H C cl fp) h3) (fun s H C cl fp => sndE vv (c.blk ok s H C cl fp) h4) (folded_of h6)
      | [], h => simp [chkE] at h
      | _ :: _ :: _, h => simp [chkE] at h
      | [⟨tg, iter, _ :: _, as⟩], h => simp [chkE] at h
    | _ => simp [chkE] at h
  | .op o a b, XE, X, sc, e, c, h => by
    rw [ev_op]
    cases e with
    | BinOp l po r p =>
      simp only [chkE, Bool.and_eq_true] at h
      exact r_bin (bin_ok c.u65 h.1) (sndE a c h.2.1) (sndE b c h.2.2)
    | Compare l cs rs p =>
      match cs, rs, h with
      | [co], [r], h =>
        simp only [chkE, Bool.and_eq_true, Bool.not_eq_true'] at h
        exact r_cmp (cmp_ok c.prg c.wld c.u65 h.1) (sndE a c h.2.1) (sndE b c h.2.2.1) h.2.2.2
      | [], _, h => simp [chkE] at h
      | [_], [], h => simp [chkE] at h
      | [_], _ :: _ :: _, h => simp [chkE] at h
      | _ :: _ :: _, _, h => simp [chkE] at h
    | Subscript l r p =>
      simp only [chkE, Bool.and_eq_true, decide_eq_true_eq] at h
      obtain ⟨rfl, h1, h2, h3⟩ := h
      exact r_ix c.prg c.wld c.u65 (sndE a c h1) (sndE b c h2) (plainIx_of h3)
    | _ => simp [chkE] at h
  | .chain o o' a b d, XE, X, sc, e, c, h => by
    rw [ev_chain]
    cases e with
    | Compare l cs rs p =>
      match cs, rs, h with
      | [co, co'], [r, s], h =>
        simp only [chkE, Bool.and_eq_true, Bool.not_eq_true'] at h
        exact r_chain (cmp_ok c.prg c.wld c.u65 h.1) (cmp_ok c.prg c.wld c.u65 h.2.1) (sndE a c h.2.2.1) (sndE b c h.2.2.2.1) (sndE d c h.2.2.2.2.1) h.2.2.2.2.2
      | [], _, h => simp [chkE] at h
      | [_], _, h => simp [chkE] at h
      | [_, _], [], h => simp [chkE] at h
      | [_, _], [_], h => simp [chkE] at h
      | [_, _], _ :: _ :: _ :: _, h => simp [chkE] at h
      | _ :: _ :: _ :: _, _, h => simp [chkE] at h
    | _ => simp [chkE] at h
  | .not a, XE, X, sc, e, c, h => by
    rw [ev_not]
    cases e with
    | UnaryOp o x p =>
      cases o with
      | Not => simp only [chkE] at h; exact r_not (sndE a c h)
      | _ => simp [chkE] at h
    | _ => simp [chkE] at h
  | .and es, XE, X, sc, e, c, h => by
    cases e with
    | BoolOp o xs p =>
      cases o with
      | And =>
        simp only [chkE, Bool.and_eq_true, Bool.not_eq_true'] at h
        have e1 : evE (call Tb k) (.and es) = evAnd (call Tb k) es := by funext σ M; simp only [evE]
        rw [e1]; exact sndAnd es c h.1 (by intro z; subst z; simp at h)
      | _ => simp [chkE] at h
    | _ => simp [chkE] at h
  | .or es, XE, X, sc, e, c, h => by
    cases e with
    | BoolOp o xs p =>
      cases o with
      | Or =>
        simp only [chkE, Bool.and_eq_true, Bool.not_eq_true'] at h
        have e1 : evE (call Tb k) (.or es) = evOr (call Tb k) es := by funext σ M; simp only [evE]
        rw [e1]; exact sndOr es c h.1 (by intro z; subst z; simp at h)
      | _ => simp [chkE] at h
    | _ => simp [chkE] at h
  | .ife d a b, XE, X, sc, e, c, h => by
    rw [ev_ife]
    cases e with
    | IfExp t x y p =>
      simp only [chkE, Bool.and_eq_true] at h
      exact r_ife (sndT d c h.1) (sndE a c h.2.1) (sndE b c h.2.2)
    | _ => simp [chkE] at h
  | .bi b es, XE, X, sc, e, c, h => by
    rw [ev_bi]
    cases e with
    | Call f xs kw p =>
      cases f with
      | Name f p2 =>
        cases kw with
        | nil =>
          simp only [chkE, Bool.and_eq_true, Bool.not_eq_true'] at h
          cases xs with
          | nil => simp at h
          | cons x xs => exact bi_ok c h.1 h.2.1 (sndEs es c h.2.2.1) (chkEs_star h.2.2.1).1
        | cons _ _ => simp [chkE] at h
      | _ => simp [chkE] at h
    | _ => simp [chkE] at h
  | .un b a, XE, X, sc, e, c, h => by
    rw [ev_unE]
    cases e with
    | UnaryOp o x p =>
      cases o with
      | USub =>
        simp only [chkE, Bool.and_eq_true, decide_eq_true_eq] at h
        obtain ⟨rfl, h1⟩ := h
        exact r_neg (sndE a c h1)
      | _ => simp [chkE] at h
    | Call f xs kw p =>
      cases f with
      | Name f p2 =>
        match xs, kw, h with
        | [x, y], [], h =>
          cases y with
          | Name t p3 =>
            simp only [chkE, Bool.and_eq_true, decide_eq_true_eq] at h
            exact isi_rule c h.1 h.2.1 h.2.2.1 h.2.2.2.1 (sndE a c h.2.2.2.2.1) h.2.2.2.2.2
          | List ys p3 =>
            cases ys with
            | nil =>
              simp only [chkE, Bool.and_eq_true, decide_eq_true_eq] at h
              obtain ⟨rfl, rfl, h1, h2, h3⟩ := h
              obtain ⟨h4, _⟩ := nilE_is (fa := fa) (XE := XE) (X := X) (b := .List [] p3) rfl
              exact r_cat c.calm (c.gl h1) (c.blt _ (by decide +kernel)) (sndE a c h2) h4 (star_cons h3) rfl
            | cons _ _ => simp [chkE] at h
          | _ => simp [chkE] at h
        | [], _, h => simp [chkE] at h
        | [_], _, h => simp [chkE] at h
        | _ :: _ :: _ :: _, _, h => simp [chkE] at h
        | [_, y], _ :: _, h =>
          cases y with
          | List ys p3 => cases ys <;> simp [chkE] at h
          | _ => simp [chkE] at h
      | Attribute o m apos =>
        match xs, kw, h with
        | [x], [], h =>
          have gen : chkE T X.N sc (.un b a) (.Call (.Attribute o m apos) [x] [] p) = (strB b o m x && (chkE T X.N sc a (strA m o x) && (notStar (strA m o x) && (baseB (strA m o x) && (apos.endLine == p.line))))) → PE X (.Call (.Attribute o m apos) [x] [] p) (rdE X.K fa XE (ev1 (fun y => biD b [y]) (evE (call Tb k) a))) := fun hg => by
            rw [hg] at h
            simp only [Bool.and_eq_true] at h
            exact str_rule c h.1 (sndE a c h.2.1) h.2.2.1 h.2.2.2.1 h.2.2.2.2
          cases x with
          | Constant v j p3 =>
            cases v with
            | bool v =>
              cases v with
              | true =>
                simp only [chkE, Bool.and_eq_true, decide_eq_true_eq] at h
                obtain ⟨rfl, rfl, h1, h2, h3⟩ := h
                exact r_indexTrue (sndE a c h1) (base_of h2) h3
              | false => exact gen (by simp only [chkE])
            | _ => exact gen (by simp only [chkE])
          | _ => exact gen (by simp only [chkE])
        | [], _, h => simp [chkE] at h
        | _ :: _ :: _, _, h => simp [chkE] at h
        | [x], _ :: _, h =>
          cases x with
          | Constant v j p3 => cases v with
            | bool v => cases v <;> simp [chkE] at h
            | _ => simp [chkE] at h
          | _ => simp [chkE] at h
      | _ => simp [chkE] at h
    | _ => simp [chkE] at h
  | .call f es, XE, X, sc, e, c, h => by
    rw [ev_call]
    cases e with
    | Call g xs kw p =>
      cases g with
      | Name s p2 =>
        cases kw with
        | nil =>
          simp only [chkE, Bool.and_eq_true] at h
          refine call_rule c h.1 h.2.1 h.2.2.1 (sndEs es c h.2.2.2) (chkEs_star h.2.2.2).1 fun hx σ M => ?_
          have := (chkEs_star h.2.2.2).2
          rw [hx] at this
          have : es = [] := by simpa using this
          subst this; simp only [evEs]
        | cons _ _ => simp [chkE] at h
      | _ => simp [chkE] at h
    | _ => simp [chkE] at h
  | .calll i es, XE, X, sc, e, c, h => by
    cases e with
    | Call g xs kw p =>
      cases g with
      | Name x p2 =>
        cases kw with
        | nil =>
          simp only [chkE, Bool.and_eq_true, decide_eq_true_eq, Bool.not_eq_true'] at h
          obtain ⟨h1, h2, h3, h4, h5⟩ := h
          cases xs with
          | nil => simp at h5
          | cons y ys => exact calll_rule c h1 h2 h3 (sndEs es c h4) (chkEs_star h4).1
        | cons _ _ => simp [chkE] at h
      | _ => simp [chkE] at h
    | _ => simp [chkE] at h
  | .slice a lo hi, XE, X, sc, e, c, h => by
    have e1 : evE (call Tb k) (.slice a lo hi) = fun σ M => (evE (call Tb k) a σ M).bind fun w M => (evOpt (call Tb k) lo σ M).bind fun l M => (evOpt (call Tb k) hi σ M).bind fun h M => ofO (asD M w) fun x => ofO (cutD l h x) fun y => .ok (.d y) M := by funext σ M; simp only [evE]
    rw [e1]
    cases e with
    | Subscript x y p =>
      cases y with
      | Slice l hh st p2 =>
        cases st with
        | none =>
          simp only [chkE, Bool.and_eq_true] at h
          exact r_slice (sndE a c h.1) (sndO lo c h.2.1) (sndO hi c h.2.2)
        | some _ => simp [chkE] at h
      | _ => simp [chkE] at h
    | _ => simp [chkE] at h
  | .rev a, XE, X, sc, e, c, h => by
    have e1 : evE (call Tb k) (.rev a) = ev1 revD (evE (call Tb k) a) := by funext σ M; simp only [evE, ev1]
    rw [e1]
    cases e with
    | Subscript x y p =>
      cases y with
      | Slice l hh st p2 =>
        match l, hh, st, h with
        | none, none, some st, h =>
          cases st with
          | UnaryOp o z p3 =>
            cases o with
            | USub =>
              cases z with
              | Constant v j p4 =>
                cases v with
                | int i =>
                  simp only [chkE, Bool.and_eq_true, decide_eq_true_eq] at h
                  obtain ⟨rfl, h⟩ := h
                  exact r_rev (sndE a c h)
                | _ => simp [chkE] at h
              | _ => simp [chkE] at h
            | _ => simp [chkE] at h
          | _ => simp [chkE] at h
        | some _, _, _, h => simp [chkE] at h
        | none, some _, _, h => simp [chkE] at h
        | none, none, none, h => simp [chkE] at h
      | _ => simp [chkE] at h
    | _ => simp [chkE] at h
  | .sorted a, XE, X, sc, e, c, h => by
    have e1 : evE (call Tb k) (.sorted a) = ev1 sortedD (evE (call Tb k) a) := by funext σ M; simp only [evE, ev1]
    rw [e1]
    cases e with
    | Call f xs kw p =>
      cases f with
      | Name f p2 =>
        match xs, kw, h with
        | [x], [], h =>
          simp only [chkE, Bool.and_eq_true, decide_eq_true_eq] at h
          obtain ⟨rfl, h1, h2, h3⟩ := h
          exact sorted_rule c h1 (sndE a c h2) h3
        | [], _, h => simp [chkE] at h
        | _ :: _ :: _, _, h => simp [chkE] at h
        | [_], _ :: _, h => simp [chkE] at h
      | _ => simp [chkE] at h
    | _ => simp [chkE] at h
  | .listof n a, XE, X, sc, e, c, h => by
    have e1 : evE (call Tb k) (.listof n a) = fun σ M => (evE (call Tb k) a σ M).bind fun w M => ofO (asD M w) fun x => match x with
      | .lst ds => mkL n ds M
      | .tup ds => mkL n ds M
      | _ => .bad := by funext σ M; simp only [evE] <;> rfl
    rw [e1]
    cases e with
    | Call f xs kw p =>
      cases f with
      | Name f p2 =>
        match xs, kw, h with
        | [x], [], h =>
          simp only [chkE, Bool.and_eq_true, decide_eq_true_eq] at h
          obtain ⟨rfl, h1, h2, h3⟩ := h
          exact r_listof (c.gl h1) (c.blt _ (by decide +kernel)) (sndE a c h2) (star_cons h3)
        | [], _, h => simp [chkE] at h
        | _ :: _ :: _, _, h => simp [chkE] at h
        | [_], _ :: _, h => simp [chkE] at h
      | _ => simp [chkE] at h
    | _ => simp [chkE] at h
  | .rep n a b, XE, X, sc, e, c, h => by
    have e1 : evE (call Tb k) (.rep n a b) = fun σ M => (evE (call Tb k) a σ M).bind fun w M => (evE (call Tb k) b σ M).bind fun w' M => ofO (asD M w) fun x => ofO (asD M w') fun y => match mulD x y with
      | some (.lst ds) => mkL n ds M
      | _ => .bad := by funext σ M; simp only [evE] <;> rfl
    rw [e1]
    cases e with
    | BinOp l po r p =>
      cases po with
      | Mult =>
        simp only [chkE, Bool.and_eq_true] at h
        exact r_rep (sndE a c h.1) (sndE b c h.2)
      | _ => simp [chkE] at h
    | _ => simp [chkE] at h
  | .comp n t it cond elt, XE, X, sc, e, c, h => by
    rw [ev_comp]
    cases e with
    | ListComp x gs scope p =>
      match gs, h with
      | [⟨tg, iter, ifs, as⟩], h =>
        simp only [chkE, Bool.and_eq_true, decide_eq_true_eq] at h
        obtain ⟨rfl, h1, h2, h3, h4, h5, h6⟩ := h
        have ok := c.blkOk h5
        exact r_comp c.calm c.nd (sndI it c h1) ok own_vars (fun s H C cl fp => sndG t (c.blk ok s H C cl fp) h2) (fun s H C cl fp => sndC cond (c.blk ok s H C cl fp) h3) (fun s H C cl fp => sndE elt (c.blk ok s H C cl fp) h4) (folded_of h6)
      | [], h => simp [chkE] at h
      | _ :: _ :: _, h => simp [chkE] at h
    | _ => simp [chkE] at h
  | .comp2 t it t2 it2 elt, XE, X, sc, e, c, h => by
    rw [ev_comp2]
    cases e with
    | ListComp x gs scope p =>
      match gs, h with
      | [⟨tg, iter, [], as⟩, ⟨tg2, iter2, [], as2⟩], h =>
        simp only [chkE, Bool.and_eq_true, decide_eq_true_eq] at h
        obtain ⟨⟨rfl, rfl⟩, h1, h2, h3, h4, h5, h6, h7, h8⟩ := h
        have ok := c.blkOk h6
        exact r_comp2 c.calm c.nd (sndI it c h1) ok own_vars (fun s H C cl fp => sndG t (c.blk ok s H C cl fp) h2) (fun s H C cl fp => sndI it2 (c.blk ok s H C cl fp) h3) (fun s H C cl fp => sndG t2 (c.blk ok s H C cl fp) h4) (fun s H C cl fp => sndE elt (c.blk ok s H C cl fp) h5) (folded_of h7) (fun env => folded_of h8)
      | [], h => simp [chkE] at h
      | [_], h => simp [chkE] at h
      | _ :: _ :: _ :: _, h => simp [chkE] at h
      | [⟨tg, iter, _ :: _, _⟩, _], h => simp [chkE] at h
      | [⟨tg, iter, [], _⟩, ⟨tg2, iter2, _ :: _, _⟩], h => simp [chkE] at h
    | _ => simp [chkE] at h
  | .meth m a es, XE, X, sc, e, c, h => by
    rw [ev_meth]
    cases e with
    | Call f xs kw p =>
      cases f with
      | Attribute o n apos =>
        match xs, kw, h with
        | [x], [], h =>
          simp only [chkE, Bool.and_eq_true] at h
          obtain ⟨h1, h2, h3, h4, h5⟩ := h
          exact meth_rule c h1 (sndE a c h2) (sndEs es c h3) ((chkEs_star h3).1 x (by simp)) h4 h5
        | [x, y], [], h =>
          simp only [chkE, Bool.and_eq_true, decide_eq_true_eq] at h
          obtain ⟨rfl, rfl, h2, h3, h4, h5⟩ := h
          have hst := (chkEs_star h3).1
          exact insert_rule c (sndE a c h2) (sndEs es c h3) (hst x (by simp)) (hst y (by simp)) h4 h5
        | [], _, h => simp [chkE] at h
        | _ :: _ :: _ :: _, _, h => simp [chkE] at h
        | [_], _ :: _, h => simp [chkE] at h
        | [_, _], _ :: _, h => simp [chkE] at h
      | _ => simp [chkE] at h
    | _ => simp [chkE] at h
  | .inn a b, XE, X, sc, e, c, h => by
    have e1 : evE (call Tb k) (.inn a b) = evInn (evE (call Tb k) a) (evE (call Tb k) b) := by funext σ M; simp only [evE, evInn]
    rw [e1]
    cases e with
    | Subscript l r p =>
      simp only [chkE, Bool.and_eq_true] at h
      exact r_inn (sndE a c h.1) (sndE b c h.2.1) (plainIx_of h.2.2)
    | _ => simp [chkE] at h
  | .nnil a, XE, X, sc, e, c, h => by
    have e1 : evE (call Tb k) (.nnil a) = evNn (evE (call Tb k) a) := by funext σ M; simp only [evE, evNn]
    rw [e1]
    cases e with
    | Compare l cs rs p =>
      match cs, rs, h with
      | [co], [r], h =>
        simp only [chkE, Bool.and_eq_true, decide_eq_true_eq] at h
        obtain ⟨rfl, h1, h2⟩ := h
        obtain ⟨h3, h4⟩ := nilE_is (fa := fa) (XE := XE) (X := X) h2
        exact r_nnil c.u65 (sndE a c h1) h3 h4
      | [], _, h => simp [chkE] at h
      | [_], [], h => simp [chkE] at h
      | [_], _ :: _ :: _, h => simp [chkE] at h
      | _ :: _ :: _, _, h => simp [chkE] at h
    | _ => simp [chkE] at h
  | .appN a m, XE, X, sc, e, c, h => by
    have e1 : evE (call Tb k) (.appN a m) = evAppN (evE (call Tb k) a) (evE (call Tb k) m) := by funext σ M; simp only [evE, evAppN]
    rw [e1]
    cases e with
    | Call f xs kw p =>
      cases f with
      | Attribute o n apos =>
        match xs, kw, h with
        | [x], [], h =>
          simp only [chkE, Bool.and_eq_true, decide_eq_true_eq] at h
          obtain ⟨rfl, h2, h3, h6, h4, h5⟩ := h
          have hs := star_cons (es := []) (env := X.env) h6
          exact r_appN (sndE a c h2) (sndE m c h3) hs (base_of h4) h5 (by rw [hs]; rfl)
        | [], _, h => simp [chkE] at h
        | _ :: _ :: _, _, h => simp [chkE] at h
        | [_], _ :: _, h => simp [chkE] at h
      | _ => simp [chkE] at h
    | _ => simp [chkE] at h
  | .make f a, XE, X, sc, e, c, h => by
    have e1 : evE (call Tb k) (.make f a) = fun σ M => (evE (call Tb k) a σ M).bind fun w M => call Tb k f [w] M := by funext σ M; simp only [evE]
    rw [e1]
    cases e with
    | Call g xs kw p =>
      cases g with
      | Name s p2 =>
        match xs, kw, h with
        | [x], [], h =>
          simp only [chkE, Bool.and_eq_true] at h
          exact make_rule c h.1 h.2.1 h.2.2.1 (sndE a c h.2.2.2.1) h.2.2.2.2
        | [], _, h => simp [chkE] at h
        | _ :: _ :: _, _, h => simp [chkE] at h
        | [_], _ :: _, h => simp [chkE] at h
      | _ => simp [chkE] at h
    | _ => simp [chkE] at h
  | .fsp a, XE, X, sc, e, c, h => by
    have e1 : evE (call Tb k) (.fsp a) = evFsp (evE (call Tb k) a) := by funext σ M; simp only [evE, evFsp]
    rw [e1]
    cases e with
    | Attribute x n p =>
      simp only [chkE, Bool.and_eq_true, decide_eq_true_eq] at h
      obtain ⟨h1, rfl, h3, h4⟩ := h
      obtain ⟨k1, k2, k3⟩ := c.cls h1
      exact r_fsp k1 k2 (sndE a c h3) (base_of h4)
    | _ => simp [chkE] at h
  | .frw a, XE, X, sc, e, c, h => by
    have e1 : evE (call Tb k) (.frw a) = evFrw (evE (call Tb k) a) := by funext σ M; simp only [evE, evFrw]
    rw [e1]
    cases e with
    | Attribute x n p =>
      simp only [chkE, Bool.and_eq_true, decide_eq_true_eq] at h
      obtain ⟨h1, rfl, h3, h4⟩ := h
      obtain ⟨k1, k2, k3⟩ := c.cls h1
      exact r_frw k1 k3 (sndE a c h3) (base_of h4)
    | _ => simp [chkE] at h
  | .mcall f a es, XE, X, sc, e, c, h => by
    have e1 : evE (call Tb k) (.mcall f a es) = evMc (evE (call Tb k) a) (evEs (call Tb k) es) (call Tb k f) := by funext σ M; simp only [evE, evMc]
    rw [e1]
    cases e with
    | Call g xs kw p =>
      cases g with
      | Attribute o n apos =>
        cases o with
        | Name x p2 =>
          cases kw with
          | nil =>
            simp only [chkE, Bool.and_eq_true, decide_eq_true_eq] at h
            obtain ⟨h1, h2, h3, h4, h5, h6, h7⟩ := h
            refine mcall_rule c h1 h2 (sndE a c h3) (sndEs es c h4) (chkEs_star h4).1 (fun hx => ?_) h5 h6 h7
            have := (chkEs_star h4).2
            rw [hx] at this
            have : es = [] := by simpa using this
            subst this
            funext σ M; simp only [evEs]
          | cons _ _ => simp [chkE] at h
        | _ => simp [chkE] at h
      | _ => simp [chkE] at h
    | _ => simp [chkE] at h
  | .idx _ _, XE, X, sc, e, c, h => by cases e <;> simp [chkE] at h
  | .mlen _ _, XE, X, sc, e, c, h => by cases e <;> simp [chkE] at h
  | .callx a es, XE, X, sc, e, c, h => by
    cases e with
    | Call g xs kw p =>
      cases g with
      | Subscript l r p2 =>
        cases kw with
        | nil =>
          simp only [chkE, Bool.and_eq_true, Bool.not_eq_true'] at h
          obtain ⟨h1, h4, h5⟩ := h
          cases xs with
          | nil => simp at h5
          | cons y ys => exact callx_rule c (sndE a c h1) (sndEs es c h4) (chkEs_star h4).1
        | cons _ _ => simp [chkE] at h
      | _ => simp [chkE] at h
    | _ => simp [chkE] at h
theorem sndT : ∀ (m : Ex) {XE : XP} {X : Cx} {sc : Scope} {e : Expr}, Ctx T Tb fa ex CX k XE X sc → chkT T X.N sc m e = true → PT X e (rdT X.K fa XE (evE (call Tb k) m))
  | .op o a b, XE, X, sc, e, c, h => by
    rw [ev_op]
    cases e with
    | Compare l cs rs p =>
      match cs, rs, h with
      | [co], [r], h =>
        simp only [chkT, Bool.and_eq_true, Bool.not_eq_true'] at h
        exact r_cmpT (cmp_ok c.prg c.wld c.u65 h.1) (sndE a c h.2.1) (sndE b c h.2.2.1) h.2.2.2
      | [], _, h => simp [chkT] at h
      | [_], [], h => simp [chkT] at h
      | [_], _ :: _ :: _, h => simp [chkT] at h
      | _ :: _ :: _, _, h => simp [chkT] at h
    | _ => simp [chkT] at h
  | .chain o o' a b d, XE, X, sc, e, c, h => by
    rw [ev_chain]
    cases e with
    | Compare l cs rs p =>
      match cs, rs, h with
      | [co, co'], [r, s], h =>
        simp only [chkT, Bool.and_eq_true, Bool.not_eq_true'] at h
        exact r_chainT (cmp_ok c.prg c.wld c.u65 h.1) (cmp_ok c.prg c.wld c.u65 h.2.1) (sndE a c h.2.2.1) (sndE b c h.2.2.2.1) (sndE d c h.2.2.2.2.1) h.2.2.2.2.2
      | [], _, h => simp [chkT] at h
      | [_], _, h => simp [chkT] at h
      | [_, _], [], h => simp [chkT] at h
      | [_, _], [_], h => simp [chkT] at h
      | [_, _], _ :: _ :: _ :: _, h => simp [chkT] at h
      | _ :: _ :: _ :: _, _, h => simp [chkT] at h
    | _ => simp [chkT] at h
  | .not a, XE, X, sc, e, c, h => by
    rw [ev_not]
    cases e with
    | UnaryOp o x p =>
      cases o with
      | Not => simp only [chkT] at h; exact r_notT (sndT a c h)
      | _ => simp [chkT] at h
    | _ => simp [chkT] at h
  | .and es, XE, X, sc, e, c, h => by
    cases e with
    | BoolOp o xs p =>
      cases o with
      | And =>
        simp only [chkT, Bool.and_eq_true, Bool.not_eq_true'] at h
        have e1 : evE (call Tb k) (.and es) = evAnd (call Tb k) es := by funext σ M; simp only [evE]
        rw [e1]; exact (sndAndT es c h.1 (by intro z; subst z; simp at h)).pt
      | _ => simp [chkT] at h
    | _ => simp [chkT] at h
  | .or es, XE, X, sc, e, c, h => by
    cases e with
    | BoolOp o xs p =>
      cases o with
      | Or =>
        simp only [chkT, Bool.and_eq_true, Bool.not_eq_true'] at h
        have e1 : evE (call Tb k) (.or es) = evOr (call Tb k) es := by funext σ M; simp only [evE]
        rw [e1]; exact (sndOrT es c h.1 (by intro z; subst z; simp at h)).pt
      | _ => simp [chkT] at h
    | _ => simp [chkT] at h
  | .c x, XE, X, sc, e, c, h => by
    cases e with
    | Constant v j p =>
      simp only [chkT] at h
      have e1 : evE (call Tb k) (.c x) = fun _ M => .ok (.d x) M := by funext σ M; simp only [evE]
      rw [e1]; exact r_val (const_ok h) (plainT_of rfl)
    | _ => simp [chkT] at h
  | .v i, XE, X, sc, e, c, h => by
    cases e with
    | Name x p =>
      simp only [chkT, Bool.and_eq_true, decide_eq_true_eq] at h
      exact r_val (var_rule c h.1 h.2.1 h.2.2) (plainT_of rfl)
    | _ => simp [chkT] at h
  | .un b a, XE, X, sc, e, c, h => by
    rw [ev_unE]
    cases e with
    | Call f xs kw p =>
      cases f with
      | Name f p2 =>
        match xs, kw, h with
        | [x, y], [], h =>
          cases y with
          | Name t p3 =>
            simp only [chkT, Bool.and_eq_true, decide_eq_true_eq] at h
            exact r_val (isi_rule c h.1 h.2.1 h.2.2.1 h.2.2.2.1 (sndE a c h.2.2.2.2.1) h.2.2.2.2.2) (plainT_of rfl)
          | _ => simp [chkT] at h
        | [], _, h => simp [chkT] at h
        | [_], _, h => simp [chkT] at h
        | _ :: _ :: _ :: _, _, h => simp [chkT] at h
        | [_, y], _ :: _, h => cases y <;> simp [chkT] at h
      | _ => simp [chkT] at h
    | _ => simp [chkT] at h
  | .bi b es, XE, X, sc, e, c, h => by
    rw [ev_bi]
    cases e with
    | Call f xs kw p =>
      cases f with
      | Name f p2 =>
        cases kw with
        | nil =>
          simp only [chkT, Bool.and_eq_true, Bool.not_eq_true'] at h
          cases xs with
          | nil => simp at h
          | cons x xs => exact r_val (bi_ok c h.1 h.2.1 (sndEs es c h.2.2.1) (chkEs_star h.2.2.1).1) (plainT_of rfl)
        | cons _ _ => simp [chkT] at h
      | _ => simp [chkT] at h
    | _ => simp [chkT] at h
  | .call f es, XE, X, sc, e, c, h => by
    rw [ev_call]
    cases e with
    | Call g xs kw p =>
      cases g with
      | Name s p2 =>
        cases kw with
        | nil =>
          simp only [chkT, Bool.and_eq_true] at h
          refine r_val (call_rule c h.1 h.2.1 h.2.2.1 (sndEs es c h.2.2.2) (chkEs_star h.2.2.2).1 fun hx σ M => ?_) (plainT_of rfl)
          have := (chkEs_star h.2.2.2).2
          rw [hx] at this
          have : es = [] := by simpa using this
          subst this; simp only [evEs]
        | cons _ _ => simp [chkT] at h
      | _ => simp [chkT] at h
    | _ => simp [chkT] at h
  | .g _ _, XE, X, sc, e, c, h => by cases e <;> simp [chkT] at h
  | .tup _, XE, X, sc, e, c, h => by cases e <;> simp [chkT] at h
  | .lst _ _, XE, X, sc, e, c, h => by cases e <;> simp [chkT] at h
  | .dnew, XE, X, sc, e, c, h => by cases e <;> simp [chkT] at h
  | .ife _ _ _, XE, X, sc, e, c, h => by cases e <;> simp [chkT] at h
  | .calll i es, XE, X, sc, e, c, h => by
    cases e with
    | Call g xs kw p =>
      cases g with
      | Name x p2 =>
        cases kw with
        | nil =>
          simp only [chkT, Bool.and_eq_true, decide_eq_true_eq, Bool.not_eq_true'] at h
          obtain ⟨h1, h2, h3, h4, h5⟩ := h
          cases xs with
          | nil => simp at h5
          | cons y ys => exact r_val (calll_rule c h1 h2 h3 (sndEs es c h4) (chkEs_star h4).1) (plainT_of rfl)
        | cons _ _ => simp [chkT] at h
      | _ => simp [chkT] at h
    | _ => simp [chkT] at h
  | .sortedK _ _, XE, X, sc, e, c, h => by cases e <;> simp [chkT] at h
  | .dcomp _ _ _ _, XE, X, sc, e, c, h => by cases e <;> simp [chkT] at h
  | .slice _ _ _, XE, X, sc, e, c, h => by cases e <;> simp [chkT] at h
  | .rev _, XE, X, sc, e, c, h => by cases e <;> simp [chkT] at h
  | .sorted _, XE, X, sc, e, c, h => by cases e <;> simp [chkT] at h
  | .listof _ _, XE, X, sc, e, c, h => by cases e <;> simp [chkT] at h
  | .rep _ _ _, XE, X, sc, e, c, h => by cases e <;> simp [chkT] at h
  | .comp _ _ _ _ _, XE, X, sc, e, c, h => by cases e <;> simp [chkT] at h
  | .comp2 _ _ _ _ _, XE, X, sc, e, c, h => by cases e <;> simp [chkT] at h
  | .meth _ _ _, XE, X, sc, e, c, h => by cases e <;> simp [chkT] at h
  | .inn _ _, XE, X, sc, e, c, h => by cases e <;> simp [chkT] at h
  | .appN _ _, XE, X, sc, e, c, h => by cases e <;> simp [chkT] at h
  | .make _ _, XE, X, sc, e, c, h => by cases e <;> simp [chkT] at h
  | .fsp _, XE, X, sc, e, c, h => by cases e <;> simp [chkT] at h
  | .frw _, XE, X, sc, e, c, h => by cases e <;> simp [chkT] at h
  | .mcall _ _ _, XE, X, sc, e, c, h => by cases e <;> simp [chkT] at h
  | .idx _ _, XE, X, sc, e, c, h => by cases e <;> simp [chkT] at h
  | .callx _ _, XE, X, sc, e, c, h => by cases e <;> simp [chkT] at h
  | .mlen _ _, XE, X, sc, e, c, h => by cases e <;> simp [chkT] at h
  | .nnil a, XE, X, sc, e, c, h => by
    have e1 : evE (call Tb k) (.nnil a) = evNn (evE (call Tb k) a) := by funext σ M; simp only [evE, evNn]
    rw [e1]
    cases e with
    | Compare l cs rs p =>
      match cs, rs, h with
      | [co], [r], h =>
        simp only [chkT, Bool.and_eq_true, decide_eq_true_eq] at h
        obtain ⟨rfl, h1, h2⟩ := h
        obtain ⟨h3, h4⟩ := nilE_is (fa := fa) (XE := XE) (X := X) h2
        exact r_nnilT c.u65 (sndE a c h1) h3 h4
      | [], _, h => simp [chkT] at h
      | [_], [], h => simp [chkT] at h
      | [_], _ :: _ :: _, h => simp [chkT] at h
      | _ :: _ :: _, _, h => simp [chkT] at h
    | _ => simp [chkT] at h
theorem sndEs : ∀ (ms : List Ex) {XE : XP} {X : Cx} {sc : Scope} {es : List Expr}, Ctx T Tb fa ex CX k XE X sc → chkEs T X.N sc ms es = true → PA X es (rdA X.K fa XE (evEs (call Tb k) ms))
  | [], XE, X, sc, es, c, h => by
    cases es with
    | nil =>
      have e1 : evEs (call Tb k) [] = fun _ M => .ok [] M := by funext σ M; simp only [evEs]
      rw [e1]; exact r_nil
    | cons _ _ => simp [chkEs] at h
  | m :: ms, XE, X, sc, es, c, h => by
    cases es with
    | nil => simp [chkEs] at h
    | cons e es =>
      simp only [chkEs, Bool.and_eq_true] at h
      have e1 : evEs (call Tb k) (m :: ms) = fun σ M => (evE (call Tb k) m σ M).bind fun w M => (evEs (call Tb k) ms σ M).bind fun ws M => .ok (w :: ws) M := by funext σ M; simp only [evEs]
      rw [e1]; exact r_cons (sndE m c h.2.1) (sndEs ms c h.2.2) (star_cons h.1)
theorem sndDs : ∀ (ms : List Ex) {XE : XP} {X : Cx} {sc : Scope} {es : List Expr}, Ctx T Tb fa ex CX k XE X sc → chkEs T X.N sc ms es = true → PA X es (rdDs X.K fa XE (evDs (call Tb k) ms))
  | [], XE, X, sc, es, c, h => by
    cases es with
    | nil =>
      have e1 : evDs (call Tb k) [] = fun _ M => .ok [] M := by funext σ M; simp only [evDs]
      rw [e1]; exact r_nilD
    | cons _ _ => simp [chkEs] at h
  | m :: ms, XE, X, sc, es, c, h => by
    cases es with
    | nil => simp [chkEs] at h
    | cons e es =>
      simp only [chkEs, Bool.and_eq_true] at h
      have e1 : evDs (call Tb k) (m :: ms) = fun σ M => (evE (call Tb k) m σ M).bind fun w M => (evDs (call Tb k) ms σ M).bind fun ds M => match w with
        | .d x => .ok (x :: ds) M
        | _ => .bad := by funext σ M; simp only [evDs] <;> rfl
      rw [e1]; exact r_consD (sndE m c h.2.1) (sndDs ms c h.2.2) (star_cons h.1)
theorem sndAnd : ∀ (ms : List Ex) {XE : XP} {X : Cx} {sc : Scope} {es : List Expr} {p : Pos}, Ctx T Tb fa ex CX k XE X sc → chkEs T X.N sc ms es = true → es ≠ [] → PE X (.BoolOp .And es p) (rdE X.K fa XE (evAnd (call Tb k) ms))
  | [], XE, X, sc, es, p, c, h, hn => by cases es <;> simp_all [chkEs]
  | [m], XE, X, sc, es, p, c, h, hn => by
    match es, h with
    | [e], h =>
      simp only [chkEs, Bool.and_eq_true] at h
      have e1 : evAnd (call Tb k) [m] = evE (call Tb k) m := by funext σ M; simp only [evAnd]
      rw [e1]; exact pe_one (sndE m c h.2.1)
    | [], h => simp [chkEs] at h
    | _ :: _ :: _, h => simp [chkEs] at h
  | m :: m2 :: ms, XE, X, sc, es, p, c, h, hn => by
    match es, h with
    | e :: e2 :: es, h =>
      simp only [chkEs, Bool.and_eq_true] at h
      rw [ev_and2]
      exact r_and (sndE m c h.2.1) (sndAnd (m2 :: ms) c (by simp only [chkEs, Bool.and_eq_true]; exact h.2.2) (by simp))
    | [], h => simp [chkEs] at h
    | [_], h => simp [chkEs] at h
theorem sndOr : ∀ (ms : List Ex) {XE : XP} {X : Cx} {sc : Scope} {es : List Expr} {p : Pos}, Ctx T Tb fa ex CX k XE X sc → chkEs T X.N sc ms es = true → es ≠ [] → PE X (.BoolOp .Or es p) (rdE X.K fa XE (evOr (call Tb k) ms))
  | [], XE, X, sc, es, p, c, h, hn => by cases es <;> simp_all [chkEs]
  | [m], XE, X, sc, es, p, c, h, hn => by
    match es, h with
    | [e], h =>
      simp only [chkEs, Bool.and_eq_true] at h
      have e1 : evOr (call Tb k) [m] = evE (call Tb k) m := by funext σ M; simp only [evOr]
      rw [e1]; exact pe_one (sndE m c h.2.1)
    | [], h => simp [chkEs] at h
    | _ :: _ :: _, h => simp [chkEs] at h
  | m :: m2 :: ms, XE, X, sc, es, p, c, h, hn => by
    match es, h with
    | e :: e2 :: es, h =>
      simp only [chkEs, Bool.and_eq_true] at h
      rw [ev_or2]
      exact r_or (sndE m c h.2.1) (sndOr (m2 :: ms) c (by simp only [chkEs, Bool.and_eq_true]; exact h.2.2) (by simp))
    | [], h => simp [chkEs] at h
    | [_], h => simp [chkEs] at h
theorem sndAndT : ∀ (ms : List Ex) {XE : XP} {X : Cx} {sc : Scope} {es : List Expr} {p : Pos}, Ctx T Tb fa ex CX k XE X sc → chkTs T X.N sc ms es = true → es ≠ [] → PW X (.BoolOp .And es p) (rdT X.K fa XE (evAnd (call Tb k) ms))
  | [], XE, X, sc, es, p, c, h, hn => by cases es <;> simp_all [chkTs]
  | [m], XE, X, sc, es, p, c, h, hn => by
    match es, h with
    | [e], h =>
      simp only [chkTs, Bool.and_eq_true] at h
      have e1 : evAnd (call Tb k) [m] = evE (call Tb k) m := by funext σ M; simp only [evAnd]
      rw [e1]; exact pw_and1 (sndT m c h.1)
    | [], h => simp [chkTs] at h
    | _ :: _ :: _, h => simp [chkTs] at h
  | m :: m2 :: ms, XE, X, sc, es, p, c, h, hn => by
    match es, h with
    | e :: e2 :: es, h =>
      simp only [chkTs, Bool.and_eq_true] at h
      rw [ev_and2]
      exact r_andT (sndT m c h.1) (sndAndT (m2 :: ms) c (by simp only [chkTs, Bool.and_eq_true]; exact h.2) (by simp))
    | [], h => simp [chkTs] at h
    | [_], h => simp [chkTs] at h
theorem sndOrT : ∀ (ms : List Ex) {XE : XP} {X : Cx} {sc : Scope} {es : List Expr} {p : Pos}, Ctx T Tb fa ex CX k XE X sc → chkTs T X.N sc ms es = true → es ≠ [] → PW X (.BoolOp .Or es p) (rdT X.K fa XE (evOr (call Tb k) ms))
  | [], XE, X, sc, es, p, c, h, hn => by cases es <;> simp_all [chkTs]
  | [m], XE, X, sc, es, p, c, h, hn => by
    match es, h with
    | [e], h =>
      simp only [chkTs, Bool.and_eq_true] at h
      have e1 : evOr (call Tb k) [m] = evE (call Tb k) m := by funext σ M; simp only [evOr]
      rw [e1]; exact pw_or1 (sndT m c h.1)
    | [], h => simp [chkTs] at h
    | _ :: _ :: _, h => simp [chkTs] at h
  | m :: m2 :: ms, XE, X, sc, es, p, c, h, hn => by
    match es, h with
    | e :: e2 :: es, h =>
      simp only [chkTs, Bool.and_eq_true] at h
      rw [ev_or2]
      exact r_orT (sndT m c h.1) (sndOrT (m2 :: ms) c (by simp only [chkTs, Bool.and_eq_true]; exact h.2) (by simp))
    | [], h => simp [chkTs] at h
    | [_], h => simp [chkTs] at h
theorem sndO : ∀ (m : Option Ex) {XE : XP} {X : Cx} {sc : Scope} {e : Option Expr}, Ctx T Tb fa ex CX k XE X sc → chkO T X.N sc m e = true → PO X e (rdO X.K fa XE (evOpt (call Tb k) m))
  | none, XE, X, sc, e, c, h => by
    cases e with
    | none =>
      have e1 : evOpt (call Tb k) none = fun _ M => .ok none M := by funext σ M; simp only [evOpt]
      rw [e1]; exact r_none
    | some _ => simp [chkO] at h
  | some m, XE, X, sc, e, c, h => by
    cases e with
    | none => simp [chkO] at h
    | some e =>
      simp only [chkO] at h
      have e1 : evOpt (call Tb k) (some m) = fun σ M => (evE (call Tb k) m σ M).bind fun w M => match w with
        | .d (.int i) => .ok (some i) M
        | _ => .bad := by funext σ M; simp only [evOpt] <;> rfl
      rw [e1]; exact r_some (sndE m c h)
theorem sndC : ∀ (m : Option Ex) {XE : XP} {X : Cx} {sc : Scope} {es : List Expr}, Ctx T Tb fa ex CX k XE X sc → chkC T X.N sc m es = true → PTs X es (rdT X.K fa XE (evCond (call Tb k) m))
  | none, XE, X, sc, es, c, h => by
    cases es with
    | nil => rw [ev_cond0]; exact r_ifs0
    | cons _ _ => simp [chkC] at h
  | some m, XE, X, sc, es, c, h => by
    match es, h with
    | [e], h =>
      simp only [chkC] at h
      rw [ev_cond1]; exact pts_one (sndT m c h)
    | [], h => simp [chkC] at h
    | _ :: _ :: _, h => simp [chkC] at h
theorem sndI : ∀ (m : It) {XE : XP} {X : Cx} {sc : Scope} {tg e : Expr}, Ctx T Tb fa ex CX k XE X sc → chkI T X.N sc m tg e = true → PI X tg e (rdI X.K fa XE (evIt (call Tb k) m))
  | .seq a, XE, X, sc, tg, e, c, h => by
    simp only [chkI] at h
    rw [ev_seq]; exact r_seq (sndE a c h)
  | .range1 a, XE, X, sc, tg, e, c, h => by
    have e1 : evIt (call Tb k) (.range1 a) = evRange1 (evE (call Tb k) a) := by funext σ M; simp only [evIt, evRange1] <;> rfl
    rw [e1]
    cases e with
    | Call f xs kw p =>
      cases f with
      | Name f p2 =>
        match xs, kw, h with
        | [x], [], h =>
          simp only [chkI, Bool.and_eq_true, decide_eq_true_eq] at h
          obtain ⟨rfl, h1, h2, h3⟩ := h
          exact r_range1 (c.gl h1) (c.blt _ (by decide +kernel)) (sndE a c h2) (star_cons h3)
        | [], _, h => simp [chkI] at h
        | _ :: _ :: _, _, h => simp [chkI] at h
        | [_], _ :: _, h => simp [chkI] at h
      | _ => simp [chkI] at h
    | _ => simp [chkI] at h
  | .range2 a b, XE, X, sc, tg, e, c, h => by
    have e1 : evIt (call Tb k) (.range2 a b) = evRange2 (evE (call Tb k) a) (evE (call Tb k) b) := by funext σ M; simp only [evIt, evRange2] <;> rfl
    rw [e1]
    cases e with
    | Call f xs kw p =>
      cases f with
      | Name f p2 =>
        match xs, kw, h with
        | [x, y], [], h =>
          simp only [chkI, Bool.and_eq_true, decide_eq_true_eq] at h
          obtain ⟨rfl, h1, h2, h3, h4, h5⟩ := h
          exact r_range2 (c.gl h1) (c.blt _ (by decide +kernel)) (sndE a c h2) (sndE b c h4) (star_cons h3) (star_cons h5)
        | [], _, h => simp [chkI] at h
        | [_], _, h => simp [chkI] at h
        | _ :: _ :: _ :: _, _, h => simp [chkI] at h
        | [_, _], _ :: _, h => simp [chkI] at h
      | _ => simp [chkI] at h
    | _ => simp [chkI] at h
  | .zip a b, XE, X, sc, tg, e, c, h => by
    have e1 : evIt (call Tb k) (.zip a b) = evZip (evE (call Tb k) a) (evE (call Tb k) b) := by funext σ M; simp only [evIt, evZip]
    rw [e1]
    cases tg with
    | Tuple elts n tp =>
      cases e with
      | Call f xs kw p =>
        cases f with
        | Name f p2 =>
          match xs, kw, h with
          | [x, y], [], h =>
            simp only [chkI, Bool.and_eq_true, decide_eq_true_eq] at h
            obtain ⟨rfl, h1, h2, h3, h4, h5⟩ := h
            exact r_zip (c.gl h1) (c.blt _ (by decide +kernel)) (sndE a c h2) (sndE b c h4) (star_cons h3) (star_cons h5)
          | [], _, h => simp [chkI] at h
          | [_], _, h => simp [chkI] at h
          | _ :: _ :: _ :: _, _, h => simp [chkI] at h
          | [_, _], _ :: _, h => simp [chkI] at h
        | _ => simp [chkI] at h
      | _ => simp [chkI] at h
    | _ => simp [chkI] at h
  | .enum a, XE, X, sc, tg, e, c, h => by
    have e1 : evIt (call Tb k) (.enum a) = evEnum (evE (call Tb k) a) := by funext σ M; simp only [evIt, evEnum]
    rw [e1]
    cases tg with
    | Tuple elts n tp =>
      cases e with
      | Call f xs kw p =>
        cases f with
        | Name f p2 =>
          match xs, kw, h with
          | [x], [], h =>
            simp only [chkI, Bool.and_eq_true, decide_eq_true_eq] at h
            obtain ⟨rfl, h1, h2, h3⟩ := h
            exact r_enum (c.gl h1) (c.blt _ (by decide +kernel)) (sndE a c h2) (star_cons h3)
          | [], _, h => simp [chkI] at h
          | _ :: _ :: _, _, h => simp [chkI] at h
          | [_], _ :: _, h => simp [chkI] at h
        | _ => simp [chkI] at h
      | _ => simp [chkI] at h
    | _ => simp [chkI] at h
  | .items a, XE, X, sc, tg, e, c, h => by
    have e1 : evIt (call Tb k) (.items a) = evItems (evE (call Tb k) a) := by funext σ M; simp only [evIt, evItems] <;> rfl
    rw [e1]
    cases tg with
    | Tuple elts n tp =>
      cases e with
      | Call f xs kw p =>
        cases f with
        | Attribute o nm apos =>
          match xs, kw, h with
          | [], [], h =>
            simp only [chkI, Bool.and_eq_true, decide_eq_true_eq] at h
            obtain ⟨rfl, h1, h2, h3⟩ := h
            exact r_items (sndE a c h1) (base_of h2) h3
          | _ :: _, _, h => simp [chkI] at h
          | [], _ :: _, h => simp [chkI] at h
        | _ => simp [chkI] at h
      | _ => simp [chkI] at h
    | _ => simp [chkI] at h
end
end
end G

set_option Elab.async false
set_option linter.all false
set_option autoImplicit false
set_option maxRecDepth 100000
set_option maxHeartbeats 4000000
/-! Soundness: the def that names a caught exception, and try. -/
namespace G
open PySem PySem.Spec PyProof.Rows L2

/-- X(), X an own exception class without own __init__ -/
theorem mk_bare {X : Cx} {C : Addr} {bmB : List Value} {B newId initId : String} {x : Str} {p pos : Pos} (F : ExcBaseFacts B newId initId bmB) (q : PySem.W.excIn X.K C bmB newId = true) (gC : X.mg x = some (.ref C))
    (kC : PySem.W.keepIn X.K (.ref C) = true) (r : Raises X (.ref C)) (hg : Gl X x) (hdb : (x == ("__debug__" : Str)) = false) :
    PMk X (.Call (.Name x p) [] [] pos) (fun σ H Q => Q (.ref C) none H) := by
  intro pins s σ H Q I h
  refine wpAny_Call_Name_kw (ld_glob I hg gC ?_ hdb)
  refine PySem.W.callWith_K0 I.kIn kC ?_
  obtain ⟨bm, N, nm, qn, bs, hdct, sn, sub, ab, col, dd, k0, k1, k2, k3, k5, mN, hC, hN, hni, T⟩ := exc_obj I.kIn q
  refine wpAny_call_exc_subT F T hC hN hni (fun h' e hm => ?_) (by decide)
  exact mk_of I hm r h (I.hok.gone hm.new)

/-- isinstance(e, c), e an exception that is pinned -/
theorem is_pin {X : Cx} {a D : Addr} {oe : Obj} (hp : (a, oe) ∈ X.pn) (C : ExcC X.K D) (hz : Zc (.ref D) none oe) (hf : ∃ vs, oe.data = .fields vs) : CallR X (.builtin "isinstance") (rIsE X.K D a) := by
  intro pins s σ H xs us Q I r ⟨c, cv, b, e1, hcv, e, q⟩
  subst e1
  match us, r with
  | [u1, u2], .cons rx (.cons rt .nil) =>
    have e1 : u1 = .ref a := rx
    have e2 := hcv _ rt
    subst e1 e2
    have hget := (I.pin (a, oe) (List.mem_append.mpr (.inl hp))).1
    obtain ⟨vs, hv⟩ := hf
    have J : PySem.W.InstAt s.heap a oe D none := by
      obtain ⟨oc, od, oda, osl⟩ := oe
      obtain ⟨h1, h2⟩ := hz
      dsimp only at h1 h2 hv
      subst h1 h2 hv
      exact ⟨hget, rfl, rfl, trivial⟩
    exact PySem.W.kia_one (PySem.W.handS_kitx_exc C.hg C.hk C.hs C.hd C.ha C.hn C.ht C.hm) I.kIn J e (fun z => nomatch z) fun tk => ⟨.bl b, H, I.kept (t' := tk) fun _ _ z => z, rfl, q⟩

/-- list.count(True) -/
theorem cnt_vals : ∀ {bs : List Bool} {us : List Value}, Vals (bs.map V.bl) us → us.countP (eqU (.bl true)) = bs.count true
  | [], us, r => by cases r; rfl
  | b :: bs, us, r => by
    cases r with
    | cons r1 r2 =>
      have e : _ = Value.bool b := r1
      subst e
      rw [List.countP_cons, List.count_cons, cnt_vals r2]
      cases b <;> rfl
theorem cnt_ok {X : Cx} : MtR X "list.count" (fun x xs H Q => ∃ (p : Addr) (bs : List Bool), x = .ref p ∧ xs = [.bl true] ∧ SqL X.K H p (bs.map V.bl) ∧ Q (.int (bs.count true : Nat)) H) := by
  intro pins s σ H x xs v us Q I rx rxs ⟨p, bs, e1, e2, hs, q⟩
  subst e1 e2
  cases rx
  obtain ⟨u, rfl, ru⟩ := rxs.one
  obtain ⟨its, rv, ⟨⟨cls, dd, data, sl⟩, n, ho, hc, hdn, hd⟩, hlen⟩ := I.list hs
  simp only at hc hd
  subst hc hd
  refine call_meets PySem.F.slot_list_count ⟨_, ho, rfl⟩ PySem.F.entry_list_count (PySem.F.args_list_count_2 _ _)
    (SeqAt.list_countAt p its.toArray n dd sl u (eqU (.bl true))) ⟨ho, fun y hy => mem_eqAt ru rfl rv (flat_bls bs) y (by simpa using hy), ?_⟩
  refine ⟨.int (bs.count true : Nat), H, I.tok _, ⟨s.toks, ?_⟩, q⟩
  rw [← cnt_vals rv]

/-! ### the def's text -/
def nine : List Str := ["InvalidSpec", "InvalidRecord", "InvalidList", "Incomparable", "TooLong", "Inconsistent", "Unsorted", "NotFound", "InvalidFormat"]
def gloB (sc : Scope) (x : Str) : Bool := match sc.names.lookup x with
  | some .globalImplicit => true
  | _ => false
def isiB (sc : Scope) (nm : Str) : Expr → Bool
  | .Call (.Name f _) [.Name e _, .Name t _] [] _ => decide (f = ("isinstance" : Str)) && (decide (e = ("error" : Str)) && (decide (t = nm) && (gloB sc f && gloB sc t)))
  | _ => false
def isisB (sc : Scope) : List Str → List Expr → Bool
  | [], [] => true
  | n :: ns, e :: es => isiB sc n e && isisB sc ns es
  | _, _ => false
def extB (sc : Scope) (ns : List Str) : Stmt → Bool
  | .Expr (.Call (.Attribute (.Name o _) m ap) [.List es _] [] cp) _ => decide (o = ("own" : Str)) && (decide (m = ("extend" : Str)) && ((ap.endLine == cp.line) && isisB sc ns es))
  | _ => false
def ownB (sc : Scope) (ns : List Str) : Stmt → Bool
  | .Assign [.Name o _] (.List es _) _ => decide (o = ("own" : Str)) && isisB sc ns es
  | _ => false
def onlyB (sc : Scope) : Stmt → Bool
  | .If (.BoolOp .Or [.Compare (.Call (.Attribute (.Name o _) m ap) [.Constant (.bool true) _ _] [] cp) [.NotEq] [.Constant (.int i) _ _] _, .UnaryOp .Not e _] _) _ [] _ =>
    decide (o = ("own" : Str)) && (decide (m = ("count" : Str)) && ((ap.endLine == cp.line) && (decide (i = 1) && isiB sc "ValueError" e)))
  | _ => false
def tellB : Stmt → Bool
  | .Return (some (.Tuple [.Constant (.str r) _ _, .Call (.Attribute (.Name o _) m ap) [.Constant (.bool true) _ _] [] cp] _ _)) _ =>
    decide (r = ("raised" : Str)) && (decide (o = ("own" : Str)) && (decide (m = ("index" : Str)) && (ap.endLine == cp.line)))
  | _ => false
def whichB (sc : Scope) : List Stmt → Bool
  | [s0, s1, s2, s3, s4, s5, s6, s7] => ownB sc ["InvalidSpec", "InvalidRecord"] s0 && (extB sc ["InvalidList"] s1 && (extB sc ["Incomparable", "TooLong"] s2 && (extB sc ["Inconsistent"] s3 &&
      (extB sc ["Unsorted", "NotFound"] s4 && (extB sc ["InvalidFormat"] s5 && (onlyB sc s6 && tellB s7))))))
  | _ => false

/-- what must be known, to run it -/
structure WhX (X : Cx) (a D : Addr) (cl : Str → Addr) (bs : Str → Bool) : Prop where
  pin : ∃ oe : Obj, (a, oe) ∈ X.pn ∧ Zc (.ref D) none oe ∧ ∃ vs, oe.data = .fields vs
  exc : ExcC X.K D
  nn : X.N = (["error", "own"] : List Str)
  v0 : X.env.scope.names.lookup ("error" : Str) = some .local
  v1 : X.env.scope.names.lookup ("own" : Str) = some .local
  isi : X.mg ("isinstance" : Str) = none
  ve : X.mg ("ValueError" : Str) = none
  cls : ∀ n ∈ nine, X.mg n = some (.ref (cl n)) ∧ PySem.W.kitOne X.K (.ref D) (.ref (cl n)) = some (bs n)
  kve : PySem.W.kitOne X.K (.ref D) (.type "ValueError") = some true

section
variable {X : Cx} {a D : Addr} {cl : Str → Addr} {bs : Str → Bool}
def tIs (a : Addr) (b : Bool) : TE := fun σ H Q => σ[0]? = some (some (.ref a)) ∧ Q (.bl b) H
theorem glo_of {sc : Scope} {x : Str} (h : gloB sc x = true) : sc.names.lookup x = some .globalImplicit := by
  unfold gloB at h
  split at h
  · assumption
  · cases h
theorem isi_pe (w : WhX X a D cl bs) {n : Str} (hn : n ∈ nine) {e : Expr} (h : isiB X.env.scope n e = true) : PE X e (tIs a (bs n)) ∧ notStar e = true ∧ plainT e = true := by
  obtain ⟨oe, hp, hz, hf⟩ := w.pin
  unfold isiB at h
  split at h
  · rename_i f p1 x p2 t p3 p4
    simp only [Bool.and_eq_true, decide_eq_true_eq] at h
    obtain ⟨rfl, rfl, rfl, h4, h5⟩ := h
    have hg := glo_of h4
    have hg5 := glo_of h5
    obtain ⟨m1, m2⟩ := w.cls t hn
    have hd : (t == ("__debug__" : Str)) = false := by
      simp only [nine, List.mem_cons, List.not_mem_nil, or_false] at hn
      rcases hn with rfl | rfl | rfl | rfl | rfl | rfl | rfl | rfl | rfl <;> decide
    refine ⟨pe_of (pe_callB (is_pin hp w.exc hz hf) hg w.isi (by decide +kernel) (pa_cons (pe_var (i := 0) (by rw [w.nn] <;> rfl) (.inl w.v0)) (pa_cons (pe_glob (v := .ref (cl t)) hg5 m1 rfl hd) pa_nil)) (by decide) (by decide)) fun σ H Q ⟨h1, h2⟩ => ?_, rfl, rfl⟩
    exact ⟨_, h1, .ref (cl t), .ref (cl t), bs t, rfl, fun u r => r, m2, h2⟩
  · cases h
theorem isi_ve (w : WhX X a D cl bs) {e : Expr} (h : isiB X.env.scope "ValueError" e = true) : PE X e (tIs a true) ∧ plainT e = true := by
  obtain ⟨oe, hp, hz, hf⟩ := w.pin
  unfold isiB at h
  split at h
  · rename_i f p1 x p2 t p3 p4
    simp only [Bool.and_eq_true, decide_eq_true_eq] at h
    obtain ⟨rfl, rfl, rfl, h4, h5⟩ := h
    have hg := glo_of h4
    have hg5 := glo_of h5
    refine ⟨pe_of (pe_callB (is_pin hp w.exc hz hf) hg w.isi (by decide +kernel) (pa_cons (pe_var (i := 0) (by rw [w.nn] <;> rfl) (.inl w.v0)) (pa_cons (pe_bltn (v := .ty "ValueError") hg5 w.ve (by decide +kernel) rfl (by decide) (by decide)) pa_nil)) (by decide) (by decide)) fun σ H Q ⟨h1, h2⟩ => ?_, rfl⟩
    exact ⟨_, h1, .ty "ValueError", .type "ValueError", true, rfl, fun u r => r, w.kve, h2⟩
  · cases h
def tIss (a : Addr) (bs : List Bool) : TA := fun σ H Q => σ[0]? = some (some (.ref a)) ∧ Q (bs.map V.bl) H
theorem isis_pa (w : WhX X a D cl bs) : ∀ {ns : List Str} {es : List Expr}, (∀ n ∈ ns, n ∈ nine) → isisB X.env.scope ns es = true → PA X es (tIss a (ns.map bs))
  | [], [], _, _ => pa_of pa_nil fun σ H Q h => h.2
  | n :: ns, e :: es, hn, h => by
    simp only [isisB, Bool.and_eq_true] at h
    obtain ⟨h1, h2, _⟩ := isi_pe w (hn n (by simp)) h.1
    exact pa_of (pa_cons h1 (isis_pa w (fun m hm => hn m (by simp [hm])) h.2) (star_cons h2)) fun σ H Q h => ⟨h.1, h.1, h.2⟩
  | [], _ :: _, _, h => by simp [isisB] at h
  | _ :: _, [], _, h => by simp [isisB] at h
/-- own = [..] -/
theorem own_ps (w : WhX X a D cl bs) {ns : List Str} {s : Stmt} (hn : ∀ n ∈ ns, n ∈ nine) (hl : ns.length ≤ 9) (h : ownB X.env.scope ns s = true) :
    PS X s (fun E σ H => σ[0]? = some (some (.ref a)) ∧ ∀ p, H p = none → E.nx (σ.set 1 (some (.ref p))) (upd H p (.lst ((ns.map bs).map V.bl)))) := by
  unfold ownB at h
  split at h
  · rename_i o p1 es p2 p3
    simp only [Bool.and_eq_true, decide_eq_true_eq] at h
    obtain ⟨rfl, h⟩ := h
    refine ps_of (ps_set (i := 1) (by rw [w.nn]; decide) (by rw [w.nn] <;> rfl) (.inl w.v1) (pe_lst (isis_pa w hn h)) rfl (.inr w.v1)) fun E σ H ⟨h1, h2⟩ => ?_
    refine ⟨h1, ?_, h2⟩
    have := sizeLine_eq
    simp; omega
  · cases h
/-- own.extend([..]) -/
theorem ext_ps (w : WhX X a D cl bs) {ns : List Str} {s : Stmt} (hn : ∀ n ∈ ns, n ∈ nine) (hl : ns.length ≤ 9) (h : extB X.env.scope ns s = true) :
    PS X s (fun E σ H => σ[0]? = some (some (.ref a)) ∧ ∃ p vs, σ[1]? = some (some (.ref p)) ∧ H p = some (.lst vs) ∧ vs.length ≤ 100 ∧ ∀ q, H q = none → E.nx σ (upd (upd H q (.lst ((ns.map bs).map V.bl))) p (.lst (vs ++ (ns.map bs).map V.bl)))) := by
  unfold extB at h
  split at h
  · rename_i o p1 m ap es p2 cp p3
    simp only [Bool.and_eq_true, decide_eq_true_eq] at h
    obtain ⟨rfl, rfl, h1, h⟩ := h
    refine ps_of (ps_expr (pe_bm PySem.F.plainAttrs_list PySem.F.slot_list_extend PySem.F.type_list_extend mt_extend (pe_var (i := 1) (by rw [w.nn] <;> rfl) (.inl w.v1)) (pa_cons (pe_lst (isis_pa w hn h)) pa_nil) rfl rfl h1) rfl) fun E σ H ⟨h1, p, vs, h2, h3, h4, h5⟩ => ?_
    have hs := sizeLine_eq
    refine ⟨_, h2, .inl ⟨rfl, vs, .of h3⟩, h1, by simp; omega, fun q hq => ?_⟩
    have hpq : p ≠ q := fun e => by rw [e, hq] at h3; cases h3
    exact ⟨p, q, vs, _, rfl, rfl, by rw [upd_ne hpq]; exact h3, upd_same, by simp; omega, h5 q hq⟩
  · cases h

/-- if own.count(True) != 1 or not isinstance(error, ValueError) -/
theorem only_ps (w : WhX X a D cl bs) {s : Stmt} (h : onlyB X.env.scope s = true) :
    PS X s (fun E σ H => σ[0]? = some (some (.ref a)) ∧ ∃ p bb, σ[1]? = some (some (.ref p)) ∧ H p = some (.lst (List.map V.bl bb)) ∧ bb.count true = 1 ∧ E.nx σ H) := by
  unfold onlyB at h
  split at h
  · rename_i o p1 m ap j1 p2 cp i j2 p3 p4 e p5 p6 th p7
    simp only [Bool.and_eq_true, decide_eq_true_eq] at h
    obtain ⟨rfl, rfl, h1, rfl, h2⟩ := h
    obtain ⟨h3, h4⟩ := isi_ve w h2
    refine ps_of (ps_if (t := fun _ _ _ => False) (pw_or (pt_cmpR op_ne (pe_bm PySem.F.plainAttrs_list PySem.F.slot_list_count PySem.F.type_list_count cnt_ok (pe_var (i := 1) (by rw [w.nn] <;> rfl) (.inl w.v1)) (pa_cons pe_bl pa_nil) rfl rfl h1) pe_int rfl)
      (pw_or1 (pt_not (pt_val h3 (plainT_of h4))))).pt ⟨fun _ _ _ _ _ _ z => z.elim⟩ pss_nil) fun E σ H ⟨k1, p, bb, k2, k3, k4, k5⟩ => ?_
    refine ⟨_, k2, .inl ⟨rfl, _, .of k3⟩, p, bb, rfl, rfl, .of k3, rfl, _, rfl, ?_⟩
    rw [k4]
    exact ⟨k1, true, rfl, k5⟩
  · cases h
/-- return ("raised", own.index(True)) -/
theorem tell_ps (w : WhX X a D cl bs) {s : Stmt} (h : tellB s = true) :
    PS X s (fun E σ H => ∃ p bb, σ[1]? = some (some (.ref p)) ∧ H p = some (.lst (List.map V.bl bb)) ∧ bb.any id = true ∧ ∀ q, H q = none → E.rt (.ref q) (upd H q (.tup [.str "raised", .int (bb.findIdx id : Nat)]))) := by
  unfold tellB at h
  split at h
  · rename_i r j1 p1 o p2 m ap j2 p3 cp k p4 p5
    simp only [Bool.and_eq_true, decide_eq_true_eq] at h
    obtain ⟨rfl, rfl, rfl, h1⟩ := h
    refine ps_of (ps_ret (pe_tup (pa_cons pe_str (pa_cons (pe_bm PySem.F.plainAttrs_list PySem.F.slot_list_index PySem.F.type_list_index mt_index (pe_var (i := 1) (by rw [w.nn] <;> rfl) (.inl w.v1)) (pa_cons pe_bl pa_nil) rfl rfl h1) pa_nil)))) fun E σ H ⟨p, bb, k2, k3, k4, k5⟩ => ?_
    have hlt : bb.findIdx id < bb.length := List.findIdx_lt_length.mpr (by simpa using k4)
    refine ⟨_, k2, .inl ⟨rfl, _, .of k3⟩, p, bb.map V.bl, .bl true, bb.findIdx id, .bl true, rfl, rfl, .of k3, rfl, flat_bls bb, ?_, rfl, fun i z' hi hz => ?_, ?_, k5⟩
    · rw [List.getElem?_map, List.getElem?_eq_getElem hlt]
      have := List.findIdx_getElem (xs := bb) (p := id) (w := hlt)
      simp only [id] at this
      simp [this]
    · rw [List.getElem?_map] at hz
      cases q2 : bb[i]? with
      | none => rw [q2] at hz; simp at hz
      | some b =>
        rw [q2] at hz
        simp only [Option.map_some, Option.some.injEq] at hz; subst hz
        have := List.not_of_lt_findIdx (xs := bb) (p := id) hi
        obtain ⟨hk', e3⟩ := List.getElem?_eq_some_iff.mp q2
        rw [e3] at this
        simp at this; subst this
        rfl
    · have := sizeLine_eq
      simp; omega
  · cases h
/-- the whole body -/
def tWh (a : Addr) (j : Nat) : TS := fun E σ H => σ[0]? = some (some (.ref a)) ∧ σ.length = 2 ∧ ∀ p H', Same H H' → H p = none → H' p = some (.tup [.str "raised", .int (j : Int)]) → E.rt (.ref p) H'
theorem which_ps (w : WhX X a D cl bs) {body : List Stmt} (h : whichB X.env.scope body = true) {j : Nat} (hc : (nine.map bs).count true = 1) (ha : (nine.map bs).any id = true) (hj : (nine.map bs).findIdx id = j) : PSs X body (tWh a j) := by
  unfold whichB at h
  split at h
  · rename_i s0 s1 s2 s3 s4 s5 s6 s7
    simp only [Bool.and_eq_true] at h
    obtain ⟨h0, h1, h2, h3, h4, h5, h6, h7⟩ := h
    refine pss_of (pss_cons (own_ps w (by decide) (by decide) h0) (pss_cons (ext_ps w (by decide) (by decide) h1) (pss_cons (ext_ps w (by decide) (by decide) h2) (pss_cons (ext_ps w (by decide) (by decide) h3) (pss_cons (ext_ps w (by decide) (by decide) h4)
      (pss_cons (ext_ps w (by decide) (by decide) h5) (pss_cons (only_ps w h6) (pss_one (tell_ps w h7))))))))) fun E σ H ⟨k1, k2, k3⟩ => ?_
    have z0 : ∀ v, (σ.set 1 v)[0]? = some (some (.ref a)) := fun v => by rw [List.getElem?_set_ne (by decide)]; exact k1
    have z1 : ∀ v, (σ.set 1 v)[1]? = some v := fun v => by rw [List.getElem?_set_self (by omega)]
    refine ⟨k1, fun p hp => ⟨z0 _, p, _, z1 _, upd_same, by simp, fun q1 n1 => ?_⟩⟩
    have u1 : ∀ {H1 : Hp} {q : Addr} {o o' : HO}, upd (upd H1 q o) p o' p = some o' := upd_same
    refine ⟨z0 _, p, _, z1 _, u1, by simp, fun q2 n2 => ?_⟩
    refine ⟨z0 _, p, _, z1 _, u1, by simp, fun q3 n3 => ?_⟩
    refine ⟨z0 _, p, _, z1 _, u1, by simp, fun q4 n4 => ?_⟩
    refine ⟨z0 _, p, _, z1 _, u1, by simp, fun q5 n5 => ?_⟩
    have eb : ((((((["InvalidSpec", "InvalidRecord"] : List Str).map bs).map V.bl ++ ((["InvalidList"] : List Str).map bs).map V.bl) ++ ((["Incomparable", "TooLong"] : List Str).map bs).map V.bl) ++ ((["Inconsistent"] : List Str).map bs).map V.bl) ++ ((["Unsorted", "NotFound"] : List Str).map bs).map V.bl) ++ ((["InvalidFormat"] : List Str).map bs).map V.bl = (nine.map bs).map V.bl := rfl
    rw [eb]
    refine ⟨z0 _, p, nine.map bs, z1 _, u1, hc, p, nine.map bs, z1 _, u1, ha, fun q nq => ?_⟩
    rw [hj]
    have up : ∀ {H1 : Hp} {q : Addr} {o o' : HO}, Same H H1 → H1 q = none → Same H (upd (upd H1 q o) p o') := fun {H1 q o o'} sm nq => fun b x e => by
      have hb : b ≠ p := fun z => by rw [z, hp] at e; cases e
      rw [upd_ne hb]
      exact same_upd nq b x (sm b x e)
    have hp0 : Same H (upd H p (.lst ((["InvalidSpec", "InvalidRecord"] : List Str).map bs |>.map V.bl))) := same_upd hp
    have t1 := up (o := .lst (((["InvalidList"] : List Str).map bs).map V.bl)) (o' := .lst (((["InvalidSpec", "InvalidRecord"] : List Str).map bs).map V.bl ++ ((["InvalidList"] : List Str).map bs).map V.bl)) hp0 n1
    have t2 := up (o := .lst (((["Incomparable", "TooLong"] : List Str).map bs).map V.bl)) (o' := .lst ((((["InvalidSpec", "InvalidRecord"] : List Str).map bs).map V.bl ++ ((["InvalidList"] : List Str).map bs).map V.bl) ++ ((["Incomparable", "TooLong"] : List Str).map bs).map V.bl)) t1 n2
    have t3 := up (o := .lst (((["Inconsistent"] : List Str).map bs).map V.bl)) (o' := .lst (((((["InvalidSpec", "InvalidRecord"] : List Str).map bs).map V.bl ++ ((["InvalidList"] : List Str).map bs).map V.bl) ++ ((["Incomparable", "TooLong"] : List Str).map bs).map V.bl) ++ ((["Inconsistent"] : List Str).map bs).map V.bl)) t2 n3
    have t4 := up (o := .lst (((["Unsorted", "NotFound"] : List Str).map bs).map V.bl)) (o' := .lst ((((((["InvalidSpec", "InvalidRecord"] : List Str).map bs).map V.bl ++ ((["InvalidList"] : List Str).map bs).map V.bl) ++ ((["Incomparable", "TooLong"] : List Str).map bs).map V.bl) ++ ((["Inconsistent"] : List Str).map bs).map V.bl) ++ ((["Unsorted", "NotFound"] : List Str).map bs).map V.bl)) t3 n4
    have t5 := up (o := .lst (((["InvalidFormat"] : List Str).map bs).map V.bl)) (o' := .lst ((nine.map bs).map V.bl)) t4 n5
    refine k3 q _ (fun b x e => same_upd nq b x (t5 b x e)) ?_ upd_same
    cases hq : H q with
    | none => rfl
    | some x => exact absurd ((t5 q x hq).symm.trans nq) (by simp)
  · cases h
end

/-! ### the def, called while the exception is handled -/
structure FnW (P : Program) (w : World) (K : PySem.W.Frag) (mg : Str → Option Value) (base : Heap) (CX : CXT) (f : Addr) (fd : FuncData) (D : Addr) (j : Nat) : Prop where
  run : ∀ (A : Around) (outer : List Env) (s : Shared) (H : Hp) (args : Args) (u : Value) (Q : VK) (E : XK) (a : Addr) (oe : Obj), A.depth < recursionLimit → Zc (.ref D) none oe → (∃ vs, oe.data = .fields vs) → L2H.PinOk outer H s (a, oe) → Env0 P w K mg base A outer s H →
    BindsTo s fd args [("error", u)] → u = .ref a → (∀ p H', Same H H' → H p = none → H' p = some (.tup [.str "raised", .int (j : Int)]) → Q (.ref p) H') → codeAny (model P w) A (.call (.ref f) args) (CR CX outer P w H s Q E) s
theorem fnW_of {P : Program} {w : World} {K : PySem.W.Frag} {mg : Str → Option Value} {base : Heap} {CX : CXT} {x qual : Str} {params : Arguments} {body : List Stmt} {scope : Scope} {f D : Addr} {fd : FuncData} {j : Nat} {cl : Str → Addr} {bs : Str → Bool}
    (F : FunD K x qual params body scope [] [] f fd) (S : FnScope ["error", "own"] ["error"] scope) (v0 : scope.names.lookup ("error" : Str) = some .local) (v1 : scope.names.lookup ("own" : Str) = some .local) (hb : whichB scope body = true)
    (exc : ExcC K D) (isi : mg ("isinstance" : Str) = none) (ve : mg ("ValueError" : Str) = none) (cls : ∀ n ∈ nine, mg n = some (.ref (cl n)) ∧ PySem.W.kitOne K (.ref D) (.ref (cl n)) = some (bs n)) (kve : PySem.W.kitOne K (.ref D) (.type "ValueError") = some true)
    (hc : (nine.map bs).count true = 1) (ha : (nine.map bs).any id = true) (hj : (nine.map bs).findIdx id = j) : FnW P w K mg base CX f fd D j := by
  obtain ⟨oc, od, dV, kV, doc, pm, an, cdv, ct, osl, rfl, lk, hcd, _, _⟩ := F.ex
  refine ⟨fun A outer s H args u Q E a oe hd hz hf hpin e0 hbd hu q => ?_⟩
  have KX : K.In s.heap := e0.mod.kin.keeps fun b o e => (e0.bs b o e).1
  have lim : s.heap.NoLimit := e0.mod.nolimit.keeps fun b o e => (e0.bs b o e).1
  have hkind : ∀ y ∈ ([("error", u)] : List (Str × Value)), scope.names.lookup y.1 = some .local ∨ (scope.names.lookup y.1 = some .cell ∧ ((cellsFrom (s.heap.objs.size + 1) scope.names []).lookup y.1).isSome = true) := fun y hy => by
    rw [List.mem_singleton] at hy
    subst hy
    exact .inl v0
  refine codeAny_call_function hd (KX _ _ lk) rfl S.co S.gen rfl (PySem.W.codeRec_of KX hcd) (hbd _ _ _ _ ?_)
  refine wpAny_newFunctionEnv_cells S.kind hkind fun env he s1 hx => ?_
  subst he
  refine ⟨lim.keeps hx.toInCall.keep, codeAny_func ?_⟩
  have I : Inv (L2H.cxH CX P w K mg base ["error", "own"] qual scope f cdv A outer s H E (a, oe)) [] (L2.start ["error", "own"] [.ref a]) H s1 :=
    L2H.inv_startH (us := [u]) (vs := [.ref a]) S hpin e0 rfl (.cons hu .nil) hx
  have W : WhX (L2H.cxH CX P w K mg base ["error", "own"] qual scope f cdv A outer s H E (a, oe)) a D cl bs := ⟨⟨oe, List.mem_singleton.mpr rfl, hz, hf⟩, exc, rfl, v0, v1, isi, ve, cls, kve⟩
  have R := (which_ps W hb hc ha hj).run [] s1 (L2.start ["error", "own"] [.ref a]) H { nx := fun _ H' => Q .non H', rt := Q } I ⟨rfl, rfl, q⟩
  refine wpAny_mono R (fun fl s' hs => ?_) fun e s' hs => hs
  have fin : ∀ {σ' : L2.St} {H' : Hp} {v : V} {u : Value}, Inv (L2H.cxH CX P w K mg base ["error", "own"] qual scope f cdv A outer s H E (a, oe)) [] σ' H' s' → RelV v u → Q v H' → CE outer P w H s Q u s' :=
    fun {σ' H' v u} J rv z => ⟨v, H', J.os, J.bare, J.base, J.hok, rv, z⟩
  cases fl with
  | ret u =>
    obtain ⟨v, σ', H', J, rv, z⟩ := hs
    exact fin J rv z
  | next =>
    obtain ⟨σ', H', J, z⟩ := hs
    exact fin (v := V.non) (u := Value.none) J rfl z
  | brk =>
    obtain ⟨_, _, _, z⟩ := hs
    exact False.elim z
  | cont =>
    obtain ⟨_, _, _, z⟩ := hs
    exact False.elim z

section
variable {X : Cx} {P : Program} {w : World}
/-- return _law_which(error), in the suite -/
theorem suite_ps {f : Addr} {fd : FuncData} {D : Addr} {j i : Nat} {x n : Str} {a : Addr} {oe : Obj} {pn : List (Addr × Obj)} {q np pos pos2 : Pos} (F : FnW X.prog X.w X.K X.mg X.base (L2.CX X.prog X.w) f fd D j) (hd : X.A.depth < recursionLimit) (hg : Gl X x) (hm : X.mg x = some (.ref f)) (hk : PySem.W.keepIn X.K (.ref f) = true)
    (hb : Binds X.K fd ["error"] []) (hdb : (x == ("__debug__" : Str)) = false) (hz : Zc (.ref D) none oe) (hf : ∃ vs, oe.data = .fields vs) (hi : X.N[i]? = some n) (hv : X.env.scope.names.lookup n = some .local) (hn : okN n = true) :
    PSs (X.suite a ((a, oe) :: pn)) [.Return (some (.Call (.Name x q) [.Name n np] [] pos)) pos2] (fun E σ H => (∃ σ0 : L2.St, σ = σ0.set i (some (.ref a))) ∧ ∀ p H', Same H H' → H p = none → H' p = some (.tup [.str "raised", .int (j : Int)]) → E.rt (.ref p) H') := by
  have hn2 : (n == ("__debug__" : Str)) = false ∧ (n == ("__classdict__" : Str)) = false := by
    unfold okN at hn
    simp only [Bool.and_eq_true, Bool.not_eq_true'] at hn
    exact ⟨hn.1, hn.2.1⟩
  have ha : PA (X.suite a ((a, oe) :: pn)) [.Name n np] (tCons (tVar i) tNil) := pa_cons (pe_var (i := i) hi (.inl hv) hn2.1 hn2.2) pa_nil
  have E : PE (X.suite a ((a, oe) :: pn)) (.Call (.Name x q) [.Name n np] [] pos) (fun σ H Q => σ[i]? = some (some (.ref a)) ∧ ∀ p H', Same H H' → H p = none → H' p = some (.tup [.str "raised", .int (j : Int)]) → Q (.ref p) H') := by
    refine ⟨fun pins s σ H Q I ⟨h1, h2⟩ => ?_⟩
    refine wpAny_Call_Name_kw (ld_glob I hg hm ?_ hdb)
    refine PySem.W.callWith_K (h₀ := X.base) I.ok.mod.kin hk (thn (ha.run pos pins s σ H (fun vs H1 => vs = [.ref a] ∧ H1 = H) I ⟨_, h1, rfl, rfl⟩) fun us s1 ⟨vs, H1, I1, r, e1, e2⟩ => ⟨I1.kIn, ?_⟩) rfl rfl
    subst e1 e2
    obtain ⟨u, rfl, ru⟩ := r.one
    have b := hb s1 [u] I1.kIn rfl
    have P1 := I1.pin (a, oe) (List.mem_append_left _ List.mem_cons_self)
    have hpin : L2H.PinOk X.stack H1 s1 (a, oe) := ⟨P1.1, P1.2.1, fun hm => (List.mem_cons.mp (I1.stkSub a hm)).elim P1.2.2.1 P1.2.2.2.1, P1.2.2.2.2⟩
    refine wpAny_call (codeAny_mono (F.run (X.suite a ((a, oe) :: pn)).A X.stack s1 H1 ⟨[u], []⟩ u Q (fun _ _ _ => False) a oe hd hz hf hpin I1.env0 b ru h2) fun r s' hq => ?_)
    cases r with
    | error e =>
      obtain ⟨_, _, _, _, _, _, _, _, _, _, _, _, z⟩ := hq
      exact z.elim
    | ok fl =>
      cases fl with
      | ret u => exact I1.after hq
      | next => exact False.elim hq
      | brk => exact False.elim hq
      | cont => exact False.elim hq
  refine ⟨fun pins s σ H D I ⟨⟨σ0, h1⟩, h2⟩ => ?_⟩
  refine (pss_one (ps_ret E)).run pins s σ H D I ⟨?_, h2⟩
  have hl := I.len
  have hlt : i < X.N.length := (List.getElem?_eq_some_iff.mp hi).1
  rw [h1] at hl ⊢
  have : i < σ0.length := by
    have e : (σ0.set i (some (V.ref a))).length = X.N.length := hl
    rw [List.length_set] at e; omega
  rw [List.getElem?_set_self this]
end

/-! ### try -/
section
variable {X : Cx} {fa : FW} {XE : XP}
theorem s_try {ex : Nat → Addr} {i : Nat} {n x : Str} {SE f : Addr} {fd : FuncData} {xs : List Nat} {body : List Stmt} {eb : Sl → Mem → Out} {np np2 np3 pos pos2 pos3 pos4 : Pos} (hs : X.stack = X.env :: X.outer) (hf : X.env.frame = some X.env.locals) (hN : X.N.Nodup) (hi : X.N[i]? = some n) (hv : X.env.scope.names.lookup n = some .local)
    (hgS : Gl X "SortError") (hmS : X.mg "SortError" = some (.ref SE)) (hg : Gl X x) (hm : X.mg x = some (.ref f)) (hk : PySem.W.keepIn X.K (.ref f) = true) (hd : X.A.depth < recursionLimit) (hbd : Binds X.K fd ["error"] []) (hdb : (x == ("__debug__" : Str)) = false) (hn : okN n = true)
    (hx : ∀ c, xs.contains c = true → PySem.W.exmOne X.K (.ref (ex c)) (.ref SE) = some true ∧ FnW X.prog X.w X.K X.mg X.base (L2.CX X.prog X.w) f fd (ex c) (c - 1) ∧ 1 ≤ c)
    (hb : ∀ (W : WX) (pn : List (Addr × Obj)) (xe : Value → Shared → Prop), Takes (X.tr pn xe) W → PassesOwn (model X.prog X.w) X.A X.env xe → PSs (X.tr pn xe) body (rdS X.K fa (fun c H => ∀ σ, W (.ref (ex c)) none σ H) eb)) :
    PS X (.Try body [.ExceptHandler (some (.Name "SortError" np)) (some n) [.Return (some (.Call (.Name x np2) [.Name n np3] [] pos)) pos2] pos3] [] [] pos4) (rdS X.K fa XE (fun σ M => tryO xs (eb σ M))) := by
  let ts : Addr → Value → Option Addr → TS := fun a cls d E σ H => (∃ σ0 : L2.St, σ = σ0.set i (some (.ref a))) ∧ ∃ c, xs.contains c = true ∧ cls = .ref (ex c) ∧ d = none ∧ ∀ p H', Same H H' → H p = none → H' p = some (.tup [.str "raised", .int ((c - 1 : Nat) : Int)]) → E.rt (.ref p) H'
  refine ps_of (ps_try_as (Wout := fun _ _ _ _ => False) (ts := ts) hs hf hN hi hv ⟨hgS, by decide, .inl hmS⟩ (fun u s' ⟨_, _, _, _, _, _, _, _, _, _, _, _, _, _, _, _, z⟩ => z.elim) hb ?_) ?_
  · intro a oe cls d pn hz hff
    refine ⟨fun pins s σ H D I ⟨h0, c, hc, e1, e2, q⟩ => ?_⟩
    subst e1 e2
    exact (suite_ps (hx c hc).2.1 hd hg hm hk hbd hdb hz hff hi hv hn).run pins s σ H D I ⟨h0, q⟩
  · intro D σ H ⟨ρ, σ', M, sl, rp, q⟩
    refine ⟨ρ, σ', M, sl, rp, ?_⟩
    have q : PostS X.K fa XE ρ H (tryO xs (eb σ' M)) D := q
    revert q
    generalize eb σ' M = o
    cases o with
    | nx σ2 M2 => exact fun q => q
    | ret v M2 => exact fun q => q
    | bad => exact fun q => q
    | exc c M2 =>
      simp only [tryO]
      split
      · rename_i hc
        intro q ρ2 H2 t2 rp2 σ2
        obtain ⟨h1, h2, h3⟩ := hx c hc
        refine ⟨true, h1, fun _ a na => ⟨⟨σ2, rfl⟩, c, hc, rfl, rfl, fun p H3 sm np hp => ?_⟩, fun z => nomatch z⟩
        refine q ρ2 H3 (.ref p) (t2.trans (.same rp2 sm)) (rp2.same sm) ?_
        simp only [RlW, Rl]
        refine ⟨p, _, rfl, fun z => rp2.dom z np, hp, ?_⟩
        refine .cons (by simp only [Rl] <;> rfl) (.cons ?_ (by simp [Rls]))
        simp only [Rl]
        congr 1
        omega
      · exact fun q => q.elim
end
end G

set_option Elab.async false
set_option linter.all false
set_option autoImplicit false
set_option maxRecDepth 100000
set_option maxHeartbeats 4000000
/-! Soundness, part 14: statements, whole. -/
namespace G
open PySem PySem.Spec PyProof.Rows L2

/-- the targets of a, b = x, y, stored in turn -/
def parB (vs : List Expr) : Bool := vs.all notStar && (!(vs.all (foldedForSure 8)) && !(vs.all (constantsAlone 8)))
theorem par2_names {env : Env} {x y : Str} {px py pt pt2 : Pos} {kt k2 : Nat} {a b : Expr} (hk : env.scope.kind = .function) (hx : env.scope.names.lookup x = some .local) (hy : env.scope.names.lookup y = some .local) (hl : (py.line == px.line) = true) (hn : x ≠ y) (hp : parB [a, b] = true) :
    swappedStores [.Tuple [.Name x px, .Name y py] kt pt] (.Tuple [a, b] k2 pt2) env = pure (some [x, y]) := by
  simp only [parB, Bool.and_eq_true, Bool.not_eq_true'] at hp
  obtain ⟨h1, h2, h3⟩ := hp
  have hkx : env.kindOf x = some .local := hx
  have hky : env.kindOf y = some .local := hy
  have hb : env.blockKind = .function := by simp [Env.blockKind, hk, ScopeKind.isAnnotationScope]
  have hl' : py.line = px.line := eq_of_beq hl
  simp only [List.all_cons, List.all_nil, Bool.and_true, Bool.and_eq_true] at h1
  obtain ⟨u1, u2⟩ := h1
  have hd : ([x, y] : List Str).eraseDups.length = 2 := by
    have : (y == x) = false := beq_eq_false_iff_ne.mpr (Ne.symm hn)
    simp [List.eraseDups_cons, this]
  have hps : (Expr.Name x px).pos = px := rfl
  simp only [swappedStores, hb, hkx, hky, hl', h2, h3, hps, List.length_cons, List.length_nil, List.head?_cons, Option.map_some, Option.getD_some, List.filterMap_cons, List.filterMap_nil, beq_self_eq_true, Bool.and_true, if_true, hd, pure_bind]
  rw [if_neg (by decide), if_neg]
  · rfl
  · have hs : ([a, b].any fun | .Starred .. => true | _ => false) = false := by
      simp only [List.any_cons, List.any_nil, Bool.or_false, Bool.or_eq_false_iff]
      exact ⟨by cases a <;> first | rfl | simp [notStar] at u1, by cases b <;> first | rfl | simp [notStar] at u2⟩
    exact fun h => Bool.false_ne_true (hs.symm.trans h)
theorem par3_names {env : Env} {x y z : Str} {px py pz pt pt2 : Pos} {kt k2 : Nat} {a b c : Expr} (hk : env.scope.kind = .function) (hx : env.scope.names.lookup x = some .local) (hy : env.scope.names.lookup y = some .local) (hz : env.scope.names.lookup z = some .local) (hl : (py.line == px.line) = true) (hl2 : (pz.line == px.line) = true) (hn : x ≠ y) (hn2 : x ≠ z) (hn3 : y ≠ z) (hp : parB [a, b, c] = true) :
    swappedStores [.Tuple [.Name x px, .Name y py, .Name z pz] kt pt] (.Tuple [a, b, c] k2 pt2) env = pure (some [x, y, z]) := by
  simp only [parB, Bool.and_eq_true, Bool.not_eq_true'] at hp
  obtain ⟨h1, h2, h3⟩ := hp
  have hkx : env.kindOf x = some .local := hx
  have hky : env.kindOf y = some .local := hy
  have hkz : env.kindOf z = some .local := hz
  have hb : env.blockKind = .function := by simp [Env.blockKind, hk, ScopeKind.isAnnotationScope]
  have hl' : py.line = px.line := eq_of_beq hl
  have hl2' : pz.line = px.line := eq_of_beq hl2
  simp only [List.all_cons, List.all_nil, Bool.and_true, Bool.and_eq_true] at h1
  obtain ⟨u1, u2, u3⟩ := h1
  have hd : ([x, y, z] : List Str).eraseDups.length = 3 := by
    have e1 : (y == x) = false := beq_eq_false_iff_ne.mpr (Ne.symm hn)
    have e2 : (z == x) = false := beq_eq_false_iff_ne.mpr (Ne.symm hn2)
    have e3 : (z == y) = false := beq_eq_false_iff_ne.mpr (Ne.symm hn3)
    simp [List.eraseDups_cons, e1, e2, e3]
  have hps : (Expr.Name x px).pos = px := rfl
  simp only [swappedStores, hb, hkx, hky, hkz, hl', hl2', h2, h3, hps, List.length_cons, List.length_nil, List.head?_cons, Option.map_some, Option.getD_some, List.filterMap_cons, List.filterMap_nil, beq_self_eq_true, Bool.and_true, if_true, hd, pure_bind]
  rw [if_neg (by decide), if_neg]
  · rfl
  · have hs : ([a, b, c].any fun | .Starred .. => true | _ => false) = false := by
      simp only [List.any_cons, List.any_nil, Bool.or_false, Bool.or_eq_false_iff]
      exact ⟨by cases a <;> first | rfl | simp [notStar] at u1, by cases b <;> first | rfl | simp [notStar] at u2, by cases c <;> first | rfl | simp [notStar] at u3⟩
    exact fun h => Bool.false_ne_true (hs.symm.trans h)

/-- a tuple of constants, which is made ahead -/
def foldT : Expr → Bool
  | .Tuple vs _ _ => vs.all (foldedForSure 8)
  | _ => false
theorem swt_fold {es : List Expr} {v : Expr} {k : Nat} {p : Pos} {env : Env} (h : foldT v = true) : swappedStores [.Tuple es k p] v env = pure none := by
  unfold foldT at h
  split at h
  · simp only [swappedStores, pure_bind]
    split
    · rfl
    · split
      · rfl
      · split
        · rfl
        · first | rfl | rw [if_pos h]
  · cases h
def isComp : Ex → Bool
  | .comp .. => true
  | .comp2 .. => true
  | .dcomp .. => true
  | _ => false
def lineOf : Expr → Nat
  | .Name _ p => p.line
  | _ => 0
def augB : Op → Operator → Bool
  | .add, .Add => true
  | .sub, .Sub => true
  | _, _ => false
def notSub : Expr → Bool
  | .Slice .. => false
  | _ => true
/-- except SortError as n: return _law_which(n) -/
def tryN : List ExceptHandler → List Stmt → List Stmt → Option Str
  | [.ExceptHandler (some (.Name c _)) (some n) [.Return (some (.Call (.Name x _) [.Name n2 _] [] _)) _] _], [], [] => if c = ("SortError" : Str) ∧ x = ("_law_which" : Str) ∧ n2 = n then some n else none
  | _, _, _ => none
theorem tryN_of {hs : List ExceptHandler} {els fin : List Stmt} {n : Str} (h : tryN hs els fin = some n) : ∃ p1 p2 p3 p4 p5 p6, hs = [.ExceptHandler (some (.Name "SortError" p1)) (some n) [.Return (some (.Call (.Name "_law_which" p2) [.Name n p3] [] p4)) p5] p6] ∧ els = [] ∧ fin = [] := by
  unfold tryN at h
  split at h
  · rename_i c p1 m x p2 n2 p3 p4 p5 p6
    split at h
    · rename_i e
      obtain ⟨rfl, rfl, rfl⟩ := e
      simp only [Option.some.injEq] at h
      subst h
      exact ⟨_, _, _, _, _, _, rfl, rfl, rfl⟩
    · cases h
  · cases h
def tryB (T : Tab) (N : List Str) (sc : Scope) (xs : List Nat) : Option Str → Bool
  | some n => T.t && (glB sc "SortError" && (glB sc "_law_which" && (lclB sc n && (okN n && (decide (N[N.findIdx fun y => decide (y = n)]? = some n) && xs.all fun c => T.x.any fun q => q.1 == c)))))
  | none => false
section
variable (T : Tab) (N : List Str) (sc : Scope)
mutual
def chkS : Sm → Stmt → Bool
  | .asg (.nm i) e, .Assign [.Name x _] v _ => decide (N[i]? = some x) && (locB sc x && (chkE T N sc e v && (notComp v || isComp e)))
  | .asg (.tup ts) e, .Assign [.Tuple xs _ _] v _ => chkGs N sc ts xs && (chkE T N sc e v && (notTup v || (cellT sc xs || foldT v)))
  | .par is es, .Assign [.Tuple xs _ _] (.Tuple vs _ _) _ => (match is, xs with
      | [i, j], [.Name x px, .Name y py] => decide (N[i]? = some x ∧ N[j]? = some y ∧ i ≠ j ∧ x ≠ y) && (lclB sc x && (lclB sc y && (py.line == px.line))) || decide (N[i]? = some x ∧ N[j]? = some y) && (locB sc x && (locB sc y && cellT sc [.Name x px, .Name y py]))
      | [i, j, l], [.Name x px, .Name y py, .Name z pz] => decide (N[i]? = some x ∧ N[j]? = some y ∧ N[l]? = some z ∧ i ≠ j ∧ i ≠ l ∧ j ≠ l ∧ x ≠ y ∧ x ≠ z ∧ y ≠ z) && (lclB sc x && (lclB sc y && (lclB sc z && ((py.line == px.line) && (pz.line == px.line)))))
      | _, _ => false) && (chkEs T N sc es vs && (parB vs && decide (vs.length = is.length)))
  | .aug i o e, .AugAssign (.Name x _) po v _ => decide (N[i]? = some x) && (locB sc x && (augB o po && chkE T N sc e v))
  | .set a i e, .Assign [.Subscript x y _] v _ => chkE T N sc a x && (chkE T N sc i y && (chkE T N sc e v && notSub y))
  | .augix a i o e, .AugAssign (.Subscript x y _) po v _ => chkE T N sc a x && (chkE T N sc i y && (chkE T N sc e v && (augB o po && notSub y)))
  | .ex e, .Expr v _ => chkE T N sc e v && notComp v
  | .iff c a b, .If t x y _ => chkT T N sc c t && (chkSs a x && chkSs b y)
  | .for_ t it b, .For tg iter body [] _ => chkG N sc t tg && (chkI T N sc it tg iter && (chkSs b body && notSet iter))
  | .whl c b, .While t body [] _ => chkT T N sc c t && chkSs b body
  | .ret e, .Return (some v) _ => chkE T N sc e v
  | .retF i, .Return (some (.Name x _)) _ => decide (N[i]? = some x) && (visB sc x && okN x)
  | .setSp a e, .Assign [.Attribute x n _] v _ => T.c && (decide (n = ("spec" : Str)) && (chkE T N sc a x && (chkE T N sc e v && notComp v)))
  | .setRw i e, .Assign [.Attribute (.Name x _) n _] v _ => T.c && (decide (n = ("rows" : Str)) && (decide (N[i]? = some x) && (visB sc x && (okN x && (chkE T N sc e v && notComp v)))))
  | .rse c, .Raise (some (.Call (.Name s _) [] [] _)) none _ => glB sc s && (okN s && T.x.any fun q => q.1 == c && decide (q.2 = s))
  | .tryW xs b, .Try body hs els fin _ => tryB T N sc xs (tryN hs els fin) && chkSs b body
  | _, _ => false
def chkSs : List Sm → List Stmt → Bool
  | [], [] => true
  | m :: ms, ss => (match m with
    | .fz _ => chkSs ms ss
    | _ => match ss with
      | s :: ss => chkS m s && chkSs ms ss
      | [] => false)
  | _, _ => false
end
end

section
variable {T : Tab} {Tb : Nat → Option Fn} {fa : FW} {ex : Nat → Addr} {CX : CXT} {k : Nat} {XE : XP} {X : Cx} {sc : Scope}
theorem augB_of {o : Op} {po : Operator} (h : augB o po = true) : augOp o = some po := by
  cases o <;> cases po <;> simp [augB] at h <;> rfl
theorem asgSub {a b : Expr} {p : Pos} {env : Env} (h : notSub b = true) (v : Value) : assign (.Subscript a b p) env v = (do
      let ov ← holding [v] (eval a env)
      let iv ← holding [v, ov] (eval b env)
      standAt p
      holding [v, ov, iv] (setItem ov iv v)
      release [v, ov, iv] []) := by
  cases b <;> first | rfl | simp [notSub] at h
theorem augSub {b : Expr} (h : notSub b = true) (ov iv new : Value) : augStore b ov iv new = (do holding [new, ov, iv] (setItem ov iv new); release [new, ov, iv] []; pure .next) := by
  cases b <;> first | rfl | simp [notSub] at h
/-- x = [.. for ..] -/
theorem sndComp (c : Ctx T Tb fa ex CX k XE X sc) {e : Ex} {v : Expr} {i : Nat} {x : Str} {p2 pos : Pos} (hi : X.N[i]? = some x) (hl : locB sc x = true) (h : chkE T X.N sc e v = true) (hc : isComp e = true) :
    PS X (.Assign [.Name x p2] v pos) (rdS X.K fa XE fun σ M => (evE (call Tb k) e σ M).out fun w M => .nx (σ.put i w) M) := by
  obtain ⟨l1, l2⟩ := c.loc hl
  cases e <;> simp only [isComp, Bool.false_eq_true] at hc
  case comp n t it cond elt =>
    cases v with
    | ListComp x' gs scope p =>
      match gs, h with
      | [⟨tg, iter, ifs, as⟩], h =>
        simp only [chkE, Bool.and_eq_true, decide_eq_true_eq] at h
        obtain ⟨rfl, h1, h2, h3, h4, h5, h6⟩ := h
        have ok := c.blkOk h5
        have e1 : (fun σ M => (evE (call Tb k) (.comp n t it cond elt) σ M).out fun w M => Out.nx (σ.put i w) M) =
          fun σ M => ((evComp t (evIt (call Tb k) it) (evCond (call Tb k) cond) (evE (call Tb k) elt) σ M).bind fun ds M => mkL n ds M).out fun w M => Out.nx (σ.put i w) M := by
          funext σ M; simp only [evE, evComp]; cases evIt (call Tb k) it σ M <;> rfl
        rw [e1]
        exact s_asgLc c.calm c.nd hi l1 l2 c.kind (sndI it c h1) ok own_vars (fun s H C cl fp => sndG t (c.blk ok s H C cl fp) h2) (fun s H C cl fp => sndC cond (c.blk ok s H C cl fp) h3) (fun s H C cl fp => sndE elt (c.blk ok s H C cl fp) h4) fun x => folded_of h6 x
      | [], h => simp [chkE] at h
      | _ :: _ :: _, h => simp [chkE] at h
    | _ => simp [chkE] at h
  case comp2 t it t2 it2 elt =>
    cases v with
    | ListComp x' gs scope p =>
      match gs, h with
      | [⟨tg, iter, [], as⟩, ⟨tg2, iter2, [], as2⟩], h =>
        simp only [chkE, Bool.and_eq_true, decide_eq_true_eq] at h
        obtain ⟨⟨rfl, rfl⟩, h1, h2, h3, h4, h5, h6, h7, h8⟩ := h
        have ok := c.blkOk h6
        have e1 : (fun σ M => (evE (call Tb k) (.comp2 t it t2 it2 elt) σ M).out fun w M => Out.nx (σ.put i w) M) =
          fun σ M => ((evComp2 t t2 (evIt (call Tb k) it) (evIt (call Tb k) it2) (evE (call Tb k) elt) σ M).bind fun ds M => mkL 0 ds M).out fun w M => Out.nx (σ.put i w) M := by
          funext σ M; simp only [evE, evComp2]; cases evIt (call Tb k) it σ M <;> rfl
        rw [e1]
        exact s_asgLc2 c.calm c.nd hi l1 l2 (sndI it c h1) ok own_vars (fun s H C cl fp => sndG t (c.blk ok s H C cl fp) h2) (fun s H C cl fp => sndI it2 (c.blk ok s H C cl fp) h3) (fun s H C cl fp => sndG t2 (c.blk ok s H C cl fp) h4)
          (fun s H C cl fp => sndE elt (c.blk ok s H C cl fp) h5) (fun x => folded_of h7 x) fun env x => folded_of h8 x
      | [], h => simp [chkE] at h
      | [_], h => simp [chkE] at h
      | _ :: _ :: _ :: _, h => simp [chkE] at h
      | [⟨_, _, _ :: _, _⟩, _], h => simp [chkE] at h
      | [⟨_, _, [], _⟩, ⟨_, _, _ :: _, _⟩], h => simp [chkE] at h
    | _ => simp [chkE] at h
  case dcomp t it kk vv =>
    cases v with
    | DictComp kx vx gs scope p =>
      match gs, h with
      | [⟨tg, iter, [], as⟩], h =>
        simp only [chkE, Bool.and_eq_true, decide_eq_true_eq] at h
        obtain ⟨rfl, h1, h2, h3, h4, h5, h6⟩ := h
        have ok := c.blkOk h5
        have e1 : evE (call Tb k) (.dcomp t it kk vv) = evDc t (evIt (call Tb k) it) (evE (call Tb k) kk) (evE (call Tb k) vv) := by funext σ M; simp only [evE, evDc]
        rw [e1]
        exact s_asgDc c.prg c.wld c.calm c.nd hi l1 l2 (sndI it c h1) ok own_vars (fun s H C cl fp => sndG t (c.blk ok s H C cl fp) h2) (fun s H C cl fp => sndE kk (c.blk ok s H C cl fp) h3) (fun s H C cl fp => sndE vv (c.blk ok s H C cl fp) h4) (folded_of h6)
      | [], h => simp [chkE] at h
      | _ :: _ :: _, h => simp [chkE] at h
      | [⟨tg, iter, _ :: _, as⟩], h => simp [chkE] at h
    | _ => simp [chkE] at h
theorem cell_of (c : Ctx T Tb fa ex CX k XE X sc) {es : List Expr} (h3 : cellT sc es = true) : ∃ x p, Expr.Name x p ∈ es ∧ X.env.kindOf x = some .cell := by
  simp only [cellT, List.any_eq_true] at h3
  obtain ⟨y, hy, hq⟩ := h3
  cases y <;> simp only [Bool.false_eq_true] at hq
  rename_i z pz
  refine ⟨z, pz, hy, ?_⟩
  cases hz : sc.names.lookup z with
  | none => rw [hz] at hq; simp at hq
  | some nk =>
    rw [hz] at hq
    cases nk <;> simp only [Bool.false_eq_true] at hq
    exact c.sc1 z _ hz (by decide)
/-- a, b = x, y by a tuple -/
theorem s_parT {i j : Nat} {x y : Str} {a b : Expr} {evs : Sl → Mem → R (List W)} {px py pt : Pos} {kt k2 : Nat} {pt2 pos : Pos} (hc : X.calm = true) (hN : X.N.Nodup) (hi : X.N[i]? = some x) (hj : X.N[j]? = some y) (hx : Loc X.env.scope x ∧ (X.fn x = true ∨ X.env.scope.names.lookup x = some .local)) (hy : Loc X.env.scope y ∧ (X.fn y = true ∨ X.env.scope.names.lookup y = some .local))
    (ha : PA X [a, b] (rdA X.K fa XE evs)) (hw : swappedStores [.Tuple [.Name x px, .Name y py] kt pt] (.Tuple [a, b] k2 pt2) X.env = pure none) : PS X (.Assign [.Tuple [.Name x px, .Name y py] kt pt] (.Tuple [a, b] k2 pt2) pos) (rdS X.K fa XE (evPar [i, j] evs)) :=
  ps_of (ps_asg (pe_tup ha) (pg_tup hc (pgs_cons (pg_name (pos := px) hN hi hx.1 hx.2) (pgs_cons (pg_name (pos := py) hN hj hy.1 hy.2) pgs_nil)) rfl rfl) swt_false hw rfl) fun D σ H ⟨ρ, σ', M, sl, rp, q⟩ => by
    refine ⟨ρ, σ', M, sl, rp, (PostS.out q).mono fun vs H1 ⟨ws, ρ1, M1, t1, rp1, rl1, q1⟩ => ?_⟩
    obtain ⟨σ2, e2, q1⟩ := PostS.of q1
    match ws, e2, rl1 with
    | [w, w'], e2, rl1 =>
      simp only [putAll, Option.some.injEq] at e2; subst e2
      obtain ⟨v, v', rfl, r1, r2⟩ := rlws_two rl1
      refine ⟨by have := sizeLine_eq; simp; omega, fun p np => ?_⟩
      have sm : Same H1 (upd H1 p (.tup [v, v'])) := same_upd np
      have t2 := To.same rp1 sm
      refine ⟨p, [v, v'], rfl, .of upd_same, rfl, v, [v'], rfl, v', [], rfl, rfl, ?_⟩
      exact q1 ρ1 _ _ t2 (rp1.same sm) ((((sl.to t1).to t2).put (r1.to t2)).put (r2.to t2))
    | [], e2, _ => simp [putAll] at e2
    | [_], e2, _ => simp [putAll] at e2
    | _ :: _ :: _ :: _, e2, _ => simp [putAll] at e2
theorem sndPar (c : Ctx T Tb fa ex CX k XE X sc) {is : List Nat} {es : List Ex} {xs vs : List Expr} {kt k2 : Nat} {pt pt2 pos : Pos}
    (h : chkS T X.N sc (.par is es) (.Assign [.Tuple xs kt pt] (.Tuple vs k2 pt2) pos) = true) : PS X (.Assign [.Tuple xs kt pt] (.Tuple vs k2 pt2) pos) (rdS X.K fa XE (evPar is (evEs (call Tb k) es))) := by
  simp only [chkS] at h
  obtain ⟨h1, k2⟩ := and_true h
  obtain ⟨h2, k3⟩ := and_true k2
  obtain ⟨h3, h4⟩ := and_true k3
  clear k2 k3 h
  split at h1
  · rename_i i j x px y py
    simp only [Bool.and_eq_true, Bool.or_eq_true, decide_eq_true_eq] at h1
    rcases h1 with h1 | h1
    rotate_left
    · obtain ⟨⟨a1, a2⟩, b1, b2, b3⟩ := h1
      match vs, h2, h3, h4 with
      | [a, b], h2, h3, h4 => exact s_parT c.calm c.nd a1 a2 (c.loc b1) (c.loc b2) (sndEs es c h2) (swt_cell (cell_of c b3))
      | [], _, _, h4 => simp at h4
      | [_], _, _, h4 => simp at h4
      | _ :: _ :: _ :: _, _, _, h4 => simp at h4
    obtain ⟨⟨a1, a2, a3, a4⟩, b1, b2, b3⟩ := h1
    match vs, h2, h3, h4 with
    | [a, b], h2, h3, h4 => exact s_par2 c.calm c.nd a1 a2 a3 (c.lcl b1) (c.lcl b2) (sndEs es c h2) (par2_names c.kind (c.lcl b1) (c.lcl b2) b3 a4 h3) swt_false
    | [], _, _, h4 => simp at h4
    | [_], _, _, h4 => simp at h4
    | _ :: _ :: _ :: _, _, _, h4 => simp at h4
  · rename_i i j l x px y py z pz
    simp only [Bool.and_eq_true, decide_eq_true_eq] at h1
    obtain ⟨⟨a1, a2, a3, a4, a5, a6, a7, a8, a9⟩, b1, b2, b3, b4, b5⟩ := h1
    match vs, h2, h3, h4 with
    | [a, b, d], h2, h3, h4 => exact s_par3 c.calm c.nd a1 a2 a3 a4 a5 a6 (c.lcl b1) (c.lcl b2) (c.lcl b3) (sndEs es c h2) (par3_names c.kind (c.lcl b1) (c.lcl b2) (c.lcl b3) b4 b5 a7 a8 a9 h3) swt_false
    | [], _, _, h4 => simp at h4
    | [_], _, _, h4 => simp at h4
    | [_, _], _, _, h4 => simp at h4
    | _ :: _ :: _ :: _ :: _, _, _, h4 => simp at h4
  · cases h1

theorem chkSs_cons {N : List Str} {m : Sm} {ms : List Sm} {ss : List Stmt} (h : chkSs T N sc (m :: ms) ss = true) : (∃ i, m = .fz i ∧ chkSs T N sc ms ss = true) ∨ ∃ s ss', ss = s :: ss' ∧ chkS T N sc m s = true ∧ chkSs T N sc ms ss' = true := by
  cases m with
  | fz i => simp only [chkSs] at h; exact .inl ⟨i, rfl, h⟩
  | _ =>
    cases ss with
    | nil => simp [chkSs] at h
    | cons s ss => simp only [chkSs] at h; exact .inr ⟨s, ss, rfl, and_true h⟩
theorem sndSp (c : Ctx T Tb fa ex CX k XE X sc) {a e : Ex} {s : Stmt} (h : chkS T X.N sc (.setSp a e) s = true) : PS X s (rdS X.K fa XE (evS (call Tb k) (.setSp a e))) := by
  have e1 : evS (call Tb k) (.setSp a e) = evSetSp (evE (call Tb k) a) (evE (call Tb k) e) := by funext σ M; simp only [evS, evSetSp] <;> rfl
  rw [e1]
  cases s with
  | Assign ts v p =>
    match ts, h with
    | [t], h =>
      cases t with
      | Attribute x n p2 =>
        simp only [chkS, Bool.and_eq_true, decide_eq_true_eq] at h
        obtain ⟨h1, rfl, h3, h4, h5⟩ := h
        obtain ⟨k1, k2, k3⟩ := c.cls h1
        exact s_setSp k1 k2 (sndE a c h3) (sndE e c h4) (sw_false h5)
      | _ => simp [chkS] at h
    | [], h => simp [chkS] at h
    | t1 :: _ :: _, h => cases t1 <;> exact absurd (show false = true from h) (by decide)
  | _ => simp [chkS] at h
theorem sndRw (c : Ctx T Tb fa ex CX k XE X sc) {i : Nat} {e : Ex} {s : Stmt} (h : chkS T X.N sc (.setRw i e) s = true) : PS X s (rdS X.K fa XE (evS (call Tb k) (.setRw i e))) := by
  have e1 : evS (call Tb k) (.setRw i e) = evSetRw i (evE (call Tb k) e) := by funext σ M; simp only [evS, evSetRw] <;> rfl
  rw [e1]
  cases s with
  | Assign ts v p =>
    match ts, h with
    | [t], h =>
      cases t with
      | Attribute o n p2 =>
        cases o with
        | Name x p3 =>
          simp only [chkS, Bool.and_eq_true, decide_eq_true_eq] at h
          obtain ⟨h1, rfl, h2, h3, h4, h5, h6⟩ := h
          obtain ⟨k1, k2, k3⟩ := c.cls h1
          have hv := var_rule (XE := XE) (p := p3) c h2 h3 h4
          have e2 : evE (call Tb k) (.v i) = fun σ M => match σ[i]? with
            | some (some w) => .ok w M
            | _ => .bad := by funext σ M; simp only [evE] <;> rfl
          rw [e2] at hv
          exact s_setRw k1 k3 hv (sndE e c h5) (sw_false h6)
        | _ => simp [chkS] at h
      | _ => simp [chkS] at h
    | [], h => simp [chkS] at h
    | t1 :: _ :: _, h =>
      cases t1 with
      | Attribute o n p2 => cases o <;> exact absurd (show false = true from h) (by decide)
      | _ => exact absurd (show false = true from h) (by decide)
  | _ => simp [chkS] at h
/-- a def's own frame, and what a try needs -/
structure TopC (T : Tab) (ex : Nat → Addr) (CX : CXT) (X : Cx) : Prop where
  cx : CX = L2.CX X.prog X.w
  hs : X.stack = X.env :: X.outer
  hf : X.env.frame = some X.env.locals
  exc : ∀ c s, (c, s) ∈ T.x → X.mg s = some (.ref (ex c)) ∧ PySem.W.excIn X.K (ex c) He.veBase "ValueError.__new__" = true ∧ PySem.W.keepIn X.K (.ref (ex c)) = true ∧ PySem.W.subIn X.K (.ref (ex c)) (.type "BaseException") = some true ∧ PySem.W.typeIn X.K (.ref (ex c)) = some (.type "type")
  tr : T.t = true → ∃ (SE f : Addr) (fd : FuncData), X.mg "SortError" = some (.ref SE) ∧ X.mg "_law_which" = some (.ref f) ∧ PySem.W.keepIn X.K (.ref f) = true ∧ Binds X.K fd ["error"] [] ∧
    ∀ c s, (c, s) ∈ T.x → PySem.W.exmOne X.K (.ref (ex c)) (.ref SE) = some true ∧ FnW X.prog X.w X.K X.mg X.base (L2.CX X.prog X.w) f fd (ex c) (c - 1) ∧ 1 ≤ c
theorem TopC.trB (t : TopC T ex CX X) (pn : List (Addr × Obj)) (xe : Value → Shared → Prop) : TopC T ex CX (X.tr pn xe) := ⟨t.cx, t.hs, t.hf, t.exc, t.tr⟩
theorem Ctx.trB (c : Ctx T Tb fa ex CX k XE X sc) (t : TopC T ex CX X) {W : WX} {pn : List (Addr × Obj)} {xe : Value → Shared → Prop} (tk : Takes (X.tr pn xe) W) (po : PassesOwn (model X.prog X.w) X.A X.env xe) :
    Ctx T Tb fa ex CX k (fun c H => ∀ σ, W (.ref (ex c)) none σ H) (X.tr pn xe) sc where
  wld := c.wld
  prg := c.prg
  calm := c.calm
  nd := c.nd
  kind := c.kind
  sc1 := c.sc1
  sc2 := c.sc2
  fn := c.fn
  room := c.room
  blt := c.blt
  con := c.con
  fns := c.fns
  kfn := c.kfn
  dom := c.dom
  cls := c.cls
  mth := c.mth
  mkr := c.mkr
  cxF := c.cxF
  pass := by
    have e := t.cx
    subst e
    exact passes_call tk fun cls d σ H ⟨c, e1, e2, h⟩ => by subst e1 e2; exact h σ
  own := po
  rse := fun e x hx hg ho p p2 p3 => by
    obtain ⟨h1, h2, h3, h4, h5⟩ := t.exc e x hx
    exact ps_of (ps_raise c.calm tk (mk_bare PySem.F.excBase_ValueError h2 h1 h3 (raises_own h4 h5) hg (okN_db ho).1)) fun D σ H h => h σ
mutual
theorem sndS : ∀ (m : Sm) {XE : XP} {X : Cx} {s : Stmt}, Ctx T Tb fa ex CX k XE X sc → TopC T ex CX X → chkS T X.N sc m s = true → PS X s (rdS X.K fa XE (evS (call Tb k) m))
  | .asg t e, XE, X, s, c, tc, h => by
    cases t with
    | nm i =>
      have e1 : evS (call Tb k) (.asg (.nm i) e) = fun σ M => (evE (call Tb k) e σ M).out fun w M => .nx (σ.put i w) M := by funext σ M; simp only [evS]
      rw [e1]
      cases s with
      | Assign ts v p =>
        match ts, h with
        | [tg], h =>
          cases tg with
          | Name x p2 =>
            simp only [chkS, Bool.and_eq_true, decide_eq_true_eq, Bool.or_eq_true] at h
            obtain ⟨h1, h2, h3, h4⟩ := h
            rcases h4 with h4 | h4
            · exact s_asg c.nd h1 (c.loc h2).1 (sndE e c h3) (sw_false h4) (c.loc h2).2
            · exact sndComp c h1 h2 h3 h4
          | _ => simp [chkS] at h
        | [], h => exact absurd (show false = true from h) Bool.false_ne_true
        | hd :: _ :: _, h => cases hd <;> exact absurd (show false = true from h) Bool.false_ne_true
      | _ => simp [chkS] at h
    | tup us =>
      have e1 : evS (call Tb k) (.asg (.tup us) e) = evUn us (evE (call Tb k) e) := by funext σ M; simp only [evS, evUn] <;> rfl
      rw [e1]
      cases s with
      | Assign ts v p =>
        match ts, h with
        | [tg], h =>
          cases tg with
          | Tuple xs n p2 =>
            simp only [chkS, Bool.and_eq_true] at h
            obtain ⟨h1, h2, h3⟩ := h
            obtain ⟨g1, g2, g3, g4⟩ := sndGs us c h1
            refine s_unpack c.calm g1 g2 g3 g4 (sndE e c h2) swt_false ?_
            simp only [Bool.or_eq_true] at h3
            rcases h3 with h3 | h3
            · exact swt_none h3
            rcases h3 with h3 | h3
            rotate_left
            · exact swt_fold h3
            · cases hv : notTup v with
              | true => exact swt_none hv
              | false =>
                cases v <;> simp only [notTup, Bool.true_eq_false] at hv
                refine swt_cell ?_
                simp only [cellT, List.any_eq_true] at h3
                obtain ⟨y, hy, hq⟩ := h3
                cases y <;> simp only [Bool.false_eq_true] at hq
                rename_i z pz
                refine ⟨z, pz, hy, ?_⟩
                cases hz : sc.names.lookup z with
                | none => rw [hz] at hq; simp at hq
                | some nk =>
                  rw [hz] at hq
                  cases nk <;> simp only [Bool.false_eq_true] at hq
                  exact c.sc1 z _ hz (by decide)
          | _ => simp [chkS] at h
        | [], h => exact absurd (show false = true from h) Bool.false_ne_true
        | hd :: _ :: _, h => cases hd <;> exact absurd (show false = true from h) Bool.false_ne_true
      | _ => simp [chkS] at h
  | .par is es, XE, X, s, c, tc, h => by
    have e1 : evS (call Tb k) (.par is es) = evPar is (evEs (call Tb k) es) := by funext σ M; simp only [evS, evPar]
    rw [e1]
    cases s with
    | Assign ts v p =>
      match ts, h with
      | [tg], h =>
        cases tg with
        | Tuple xs n p2 =>
          cases v with
          | Tuple vs n2 p3 => exact sndPar c h
          | _ => simp [chkS] at h
        | _ => simp [chkS] at h
      | [], h => exact absurd (show false = true from h) Bool.false_ne_true
      | hd :: _ :: _, h => cases hd <;> exact absurd (show false = true from h) Bool.false_ne_true
    | _ => simp [chkS] at h
  | .aug i o e, XE, X, s, c, tc, h => by
    have e1 : evS (call Tb k) (.aug i o e) = fun σ M => match σ[i]? with
      | some (some (.d (.int x))) => (evE (call Tb k) e σ M).out fun w M => match w with
        | .d (.int y) => ofOut (augI o x y) fun z => .nx (σ.put i (.d (.int z))) M
        | _ => .bad
      | _ => .bad := by funext σ M; simp only [evS] <;> rfl
    rw [e1]
    cases s with
    | AugAssign tg po v p =>
      cases tg with
      | Name x p2 =>
        simp only [chkS, Bool.and_eq_true, decide_eq_true_eq] at h
        obtain ⟨h1, h2, h3, h4⟩ := h
        exact s_aug c.nd h1 (c.loc h2).1 (augB_of h3) (sndE e c h4) (c.loc h2).2
      | _ => simp [chkS] at h
    | _ => simp [chkS] at h
  | .set a i e, XE, X, s, c, tc, h => by
    have e1 : evS (call Tb k) (.set a i e) = fun σ M => (evE (call Tb k) e σ M).out fun w M => match w with
      | .d x => (evE (call Tb k) a σ M).out fun wa M => (evE (call Tb k) i σ M).out fun wi M => ofOut (setW wa wi x M) fun M => .nx σ M
      | _ => .bad := by funext σ M; simp only [evS] <;> rfl
    rw [e1]
    cases s with
    | Assign ts v p =>
      match ts, h with
      | [tg], h =>
        cases tg with
        | Subscript x y p2 =>
          simp only [chkS, Bool.and_eq_true] at h
          obtain ⟨h1, h2, h3, h4⟩ := h
          exact s_set c.prg c.wld c.u65 (sndE a c h1) (sndE i c h2) (sndE e c h3) sws_false sws_none (asgSub h4)
        | _ => simp [chkS] at h
      | [], h => exact absurd (show false = true from h) Bool.false_ne_true
      | hd :: _ :: _, h => cases hd <;> exact absurd (show false = true from h) Bool.false_ne_true
    | _ => simp [chkS] at h
  | .augix a i o e, XE, X, s, c, tc, h => by
    have e1 : evS (call Tb k) (.augix a i o e) = fun σ M => (evE (call Tb k) a σ M).out fun wa M => (evE (call Tb k) i σ M).out fun wi M => ofOut (getIx wa wi M) fun old => (evE (call Tb k) e σ M).out fun w M => match w with
      | .d (.int y) => ofOut (augI o old y) fun z => ofOut (setW wa wi (.int z) M) fun M => .nx σ M
      | _ => .bad := by funext σ M; simp only [evS] <;> rfl
    rw [e1]
    cases s with
    | AugAssign tg po v p =>
      cases tg with
      | Subscript x y p2 =>
        simp only [chkS, Bool.and_eq_true] at h
        obtain ⟨h1, h2, h3, h4, h5⟩ := h
        exact s_augix c.prg c.wld c.u65 (augB_of h4) (sndE a c h1) (sndE i c h2) (sndE e c h3) (augSub h5)
      | _ => simp [chkS] at h
    | _ => simp [chkS] at h
  | .ex e, XE, X, s, c, tc, h => by
    have e1 : evS (call Tb k) (.ex e) = fun σ M => (evE (call Tb k) e σ M).out fun _ M => .nx σ M := by funext σ M; simp only [evS]
    rw [e1]
    cases s with
    | Expr v p =>
      simp only [chkS, Bool.and_eq_true] at h
      exact s_expr (sndE e c h.1) (sw_false h.2)
    | _ => simp [chkS] at h
  | .iff t a b, XE, X, s, c, tc, h => by
    have e1 : evS (call Tb k) (.iff t a b) = fun σ M => (evE (call Tb k) t σ M).out fun w M => match w with
      | .d (.bl true) => evSs (call Tb k) a σ M
      | .d (.bl false) => evSs (call Tb k) b σ M
      | _ => .bad := by funext σ M; simp only [evS] <;> rfl
    rw [e1]
    cases s with
    | If x y z p =>
      simp only [chkS, Bool.and_eq_true] at h
      exact s_if (sndT t c h.1) (sndSs a c tc h.2.1) (sndSs b c tc h.2.2)
    | _ => simp [chkS] at h
  | .for_ t it b, XE, X, s, c, tc, h => by
    have e1 : evS (call Tb k) (.for_ t it b) = evFor t (evIt (call Tb k) it) (evSs (call Tb k) b) := by funext σ M; simp only [evS, evFor]
    rw [e1]
    cases s with
    | For tg iter body els p =>
      cases els with
      | nil =>
        simp only [chkS, Bool.and_eq_true] at h
        obtain ⟨h1, h2, h3, h4⟩ := h
        exact s_for c.own c.calm (sndI it c h2) (sndG t c h1) (sndSs b c tc h3) fun x => folded_of h4 x
      | cons _ _ => simp [chkS] at h
    | _ => simp [chkS] at h
  | .whl t b, XE, X, s, c, tc, h => by
    have e1 : evS (call Tb k) (.whl t b) = fun σ M => whileLoop (evE (call Tb k) t) (evSs (call Tb k) b) 1000 σ M := by funext σ M; simp only [evS]
    rw [e1]
    cases s with
    | While x body els p =>
      cases els with
      | nil =>
        simp only [chkS, Bool.and_eq_true] at h
        exact s_while c.own (sndT t c h.1) (sndSs b c tc h.2) 1000
      | cons _ _ => simp [chkS] at h
    | _ => simp [chkS] at h
  | .ret e, XE, X, s, c, tc, h => by
    have e1 : evS (call Tb k) (.ret e) = fun σ M => (evE (call Tb k) e σ M).out fun w M => .ret w M := by funext σ M; simp only [evS]
    rw [e1]
    cases s with
    | Return v p =>
      cases v with
      | none => simp [chkS] at h
      | some v => simp only [chkS] at h; exact s_ret (sndE e c h)
    | _ => simp [chkS] at h
  | .retF i, XE, X, s, c, tc, h => by
    have e1 : evS (call Tb k) (.retF i) = fun σ M => match σ[i]? with
      | some (some w) => ofOut (freeze w M) fun q => .ret (.d q.1) q.2
      | _ => .bad := by funext σ M; simp only [evS] <;> rfl
    rw [e1]
    cases s with
    | Return v p =>
      cases v with
      | none => simp [chkS] at h
      | some v =>
        cases v with
        | Name x p2 =>
          simp only [chkS, Bool.and_eq_true, decide_eq_true_eq] at h
          have o := okN_db h.2.2
          exact s_retF (pe_var h.1 (c.vis h.2.1) o.1 o.2.1)
        | _ => simp [chkS] at h
    | _ => simp [chkS] at h
  | .rse e, XE, X, s, c, tc, h => by
    have e1 : evS (call Tb k) (.rse e) = fun σ M => .exc e M := by funext σ M; simp only [evS]
    rw [e1]
    cases s with
    | Raise v fr p =>
      cases v with
      | none => simp [chkS] at h
      | some v =>
        cases fr with
        | some _ =>
          cases v with
          | Call g xs kw p2 => cases g <;> cases xs <;> cases kw <;> exact absurd (show false = true from h) Bool.false_ne_true
          | _ => exact absurd (show false = true from h) Bool.false_ne_true
        | none =>
          cases v with
          | Call g xs kw p2 =>
            cases g with
            | Name s p1 =>
              match xs, kw, h with
              | [], [], h =>
                simp only [chkS, Bool.and_eq_true] at h
                obtain ⟨h1, h2, h3⟩ := h
                obtain ⟨⟨f', s'⟩, hm, hq⟩ := List.any_eq_true.mp h3
                simp only [Bool.and_eq_true, beq_iff_eq, decide_eq_true_eq] at hq
                obtain ⟨rfl, rfl⟩ := hq
                exact ps_of (c.rse _ _ hm (c.gl h1) h2 p1 p2 p) fun D σ H ⟨ρ, σ', M, sl, rp, q⟩ => q ρ H (.refl _ _) rp
              | _ :: _, kw, h => cases kw <;> exact absurd (show false = true from h) Bool.false_ne_true
              | [], _ :: _, h => exact absurd (show false = true from h) Bool.false_ne_true
            | _ => cases xs <;> cases kw <;> exact absurd (show false = true from h) Bool.false_ne_true
          | _ => exact absurd (show false = true from h) Bool.false_ne_true
    | _ => simp [chkS] at h
  | .fz i, XE, X, s, c, tc, h => by cases s <;> simp [chkS] at h
  | .setSp a e, XE, X, s, c, tc, h => sndSp c h
  | .setRw i e, XE, X, s, c, tc, h => sndRw c h
  | .mkS _, XE, X, s, c, tc, h => by cases s <;> simp [chkS] at h
  | .tryW xs b, XE, X, s, c, tc, h => by
    have e1 : evS (call Tb k) (.tryW xs b) = fun σ M => tryO xs (evSs (call Tb k) b σ M) := by funext σ M; simp only [evS]
    rw [e1]
    cases s with
    | Try body hs els fin p =>
      simp only [chkS, Bool.and_eq_true] at h
      obtain ⟨h1, h2⟩ := h
      cases hn : tryN hs els fin with
      | none => rw [hn] at h1; cases h1
      | some n =>
        rw [hn] at h1
        simp only [tryB, Bool.and_eq_true, decide_eq_true_eq, List.all_eq_true, List.any_eq_true] at h1
        obtain ⟨k1, k2, k3, k4, k5, k6, k7⟩ := h1
        obtain ⟨p1, p2, p3, p4, p5, p6, rfl, rfl, rfl⟩ := tryN_of hn
        obtain ⟨SE, f, fd, g1, g2, g3, g4, g5⟩ := tc.tr k1
        refine s_try (ex := ex) tc.hs tc.hf c.nd k6 (c.lcl k4) (c.gl k2) g1 (c.gl k3) g2 g3 c.room.depth g4 (by decide) k5 (fun e he => ?_) fun W pn xe tk po => sndSs b (c.trB tc tk po) (tc.trB pn xe) h2
        obtain ⟨q, hq, hq2⟩ := k7 e (by simpa using he)
        have e2 : q.1 = e := by simpa using hq2
        subst e2
        exact g5 q.1 q.2 hq
    | _ => simp [chkS] at h
theorem sndSs : ∀ (ms : List Sm) {XE : XP} {X : Cx} {ss : List Stmt}, Ctx T Tb fa ex CX k XE X sc → TopC T ex CX X → chkSs T X.N sc ms ss = true → PSs X ss (rdS X.K fa XE (evSs (call Tb k) ms))
  | [], XE, X, ss, c, tc, h => by
    have e1 : evSs (call Tb k) [] = fun σ M => .nx σ M := by funext σ M; simp only [evSs]
    rw [e1]
    cases ss with
    | nil => exact s_nil
    | cons _ _ => simp [chkSs] at h
  | m :: ms, XE, X, ss, c, tc, h => by
    have e1 : evSs (call Tb k) (m :: ms) = fun σ M => (evS (call Tb k) m σ M).andThen fun σ M => evSs (call Tb k) ms σ M := by funext σ M; simp only [evSs]
    rw [e1]
    rcases chkSs_cons h with ⟨i, hm, h2⟩ | ⟨s, ss', hs, h1, h2⟩
    · have h3 := sndSs ms c tc h2
      have e2 : evS (call Tb k) m = fun σ M => match σ[i]? with
        | some (some w) => ofOut (freeze w M) fun q => .nx (σ.put i (.d q.1)) q.2
        | _ => .bad := by funext σ M; rw [hm]; simp only [evS] <;> rfl
      rw [e2]
      exact s_fz h3
    · have h3 := sndS m c tc h1
      have h4 := sndSs ms c tc h2
      rw [hs]
      exact s_cons h3 h4
end
end
end G

set_option Elab.async false
set_option linter.all false
set_option autoImplicit false
set_option maxRecDepth 100000
set_option maxHeartbeats 4000000
/-! Soundness, part 15: defs. -/
namespace G
open PySem PySem.Spec PyProof.Rows L2

/-- a def that stands at an address -/
def DefF (K : PySem.W.Frag) (T : Tab) (Tb : Nat → Option Fn) (f : Nat) (a : Addr) : Prop :=
  ∃ (fn : Fn) (s qual : Str) (params : Arguments) (body : List Stmt) (scope : Scope) (fd : FuncData) (N ps : List Str), Tb f = some fn ∧ FunD K s qual params body scope [] [] a fd ∧ FnScope N ps scope ∧
    ps.length = fn.np ∧ N.length = fn.ns ∧ Binds K fd ps [] ∧ chkSs T N scope fn.body body = true
/-- what is known of the module -/
structure Wd (P : Program) (w : World) (K : PySem.W.Frag) (mg : Str → Option Value) (base : Heap) (T : Tab) (Tb : Nat → Option Fn) (fa : FW) (ex : Nat → Addr) : Prop where
  wld : fa.w = w
  prg : fa.p = P
  blt : ∀ x ∈ bltNames, mg x = none
  con : ∀ nm s x, (nm, s, x) ∈ T.g → ∃ u v, mg s = some u ∧ RelV v u ∧ ∀ m H, Rl K fa m H x v
  exc : ∀ c s, (c, s) ∈ T.x → mg s = some (.ref (ex c)) ∧ PySem.W.excIn K (ex c) He.veBase "ValueError.__new__" = true ∧ PySem.W.keepIn K (.ref (ex c)) = true ∧ PySem.W.subIn K (.ref (ex c)) (.type "BaseException") = some true ∧ PySem.W.typeIn K (.ref (ex c)) = some (.type "type")
  kfn : ∀ f s, (f, s) ∈ T.k → KeyFn K mg s
  dom : ∀ f a, fa.f f = some a → ∃ s, (f, s) ∈ T.f
  cls : T.c = true → Cls K fa.c ∧ NoAttr K fa.c "spec" ∧ NoAttr K fa.c "rows"
  mth : ∀ f m, (f, m) ∈ T.h → ∃ a, Meth K fa.c m a ∧ DefF K T Tb f a
  mkr : ∀ f g s, (f, g, s) ∈ T.m → Tb f = some ⟨1, 1, [.mkS g]⟩ ∧ mg s = some (.ref fa.c) ∧ ∃ a, Mk K fa.c a ∧ DefF K T Tb g a
  whi : T.t = true → ∃ (SE f : Addr) (fd : FuncData), mg "SortError" = some (.ref SE) ∧ mg "_law_which" = some (.ref f) ∧ PySem.W.keepIn K (.ref f) = true ∧ Binds K fd ["error"] [] ∧
    ∀ c s, (c, s) ∈ T.x → PySem.W.exmOne K (.ref (ex c)) (.ref SE) = some true ∧ FnW P w K mg base (L2.CX P w) f fd (ex c) (c - 1) ∧ 1 ≤ c
  fns : ∀ f s, (f, s) ∈ T.f → ∃ (fn : Fn) (a : Addr) (qual : Str) (params : Arguments) (body : List Stmt) (scope : Scope) (fd : FuncData) (N ps : List Str), Tb f = some fn ∧ fa.f f = some a ∧ mg s = some (.ref a) ∧ FunD K s qual params body scope [] [] a fd ∧ FnScope N ps scope ∧
    ps.length = fn.np ∧ N.length = fn.ns ∧ Binds K fd ps [] ∧ chkSs T N scope fn.body body = true

section
variable {P : Program} {w : World} {K : PySem.W.Frag} {mg : Str → Option Value} {base : Heap} {T : Tab} {Tb : Nat → Option Fn} {fa : FW} {ex : Nat → Addr}
/-- all that is proved of one level -/
structure Lv (P : Program) (w : World) (K : PySem.W.Frag) (mg : Str → Option Value) (base : Heap) (T : Tab) (Tb : Nat → Option Fn) (fa : FW) (ex : Nat → Addr) (k : Nat) : Prop where
  fns : ∀ f s, (f, s) ∈ T.f → FnAt P w K mg base (CX P w) fa ex Tb k f s
  mth : ∀ f m, (f, m) ∈ T.h → ∃ (a : Addr) (fd : FuncData) (ps : List Str), Meth K fa.c m a ∧ Binds K fd ps [] ∧ FnOk P w K mg base (CX P w) k a fd ps (spF K fa ex Tb k f)
  ini : ∀ f g s, (f, g, s) ∈ T.m → ∀ a, Mk K fa.c a → ∃ (fd : FuncData) (ps : List Str), Binds K fd ps [] ∧ FnOk P w K mg base (CX P w) k a fd ps (spF K fa ex Tb k g)
theorem fn_ctx (W : Wd P w K mg base T Tb fa ex) {k : Nat} (L : Lv P w K mg base T Tb fa ex k ∧ ∀ j, k = j + 1 → Lv P w K mg base T Tb fa ex j) {N ps : List Str} {qual : Str} {scope : Scope} (S : FnScope N ps scope) {f : Addr} {cdv : Value} {A : Around} {outer : List Env} {s : Shared} {H : Hp} {E : XK}
    (hr : Room k (A.deeper (envOfC qual scope s.heap.objs.size f cdv))) :
    Ctx T Tb fa ex (CX P w) k (fun c H' => E (.ref (ex c)) none H') (cxOf (CX P w) P w K mg base N qual scope f cdv A outer s H E) scope where
  wld := W.wld
  prg := W.prg
  calm := rfl
  nd := S.nd
  kind := S.kind
  sc1 := fun _ _ h _ => h
  sc2 := fun _ h => .inl h
  fn := fun _ _ => rfl
  room := hr
  blt := W.blt
  con := W.con
  fns := L.1.fns
  cls := W.cls
  mth := L.1.mth
  mkr := fun f g s h => by
    obtain ⟨h1, h2, a, h3, _⟩ := W.mkr f g s h
    exact ⟨h1, h2, a, h3, fun j e => (L.2 j e).ini f g s h a h3⟩
  kfn := W.kfn
  dom := W.dom
  cxF := fun o H s e s' h => by
    obtain ⟨a, B, H', cls, d, _, _, _, _, _, _, _, c, _, _, h⟩ := h
    exact h
  pass := by
    have tk : Takes (cxOf (CX P w) P w K mg base N qual scope f cdv A outer s H E) (fun cls d _ H => E cls d H) := takes_of rfl rfl rfl rfl
    exact passes_call tk fun cls d σ H ⟨c, e1, e2, h⟩ => by subst e1 e2; exact h
  own := passes_of rfl
  rse := fun c x hx hg ho p p2 p3 => by
    obtain ⟨h1, h2, h3, h4, h5⟩ := W.exc c x hx
    have tk : Takes (cxOf (CX P w) P w K mg base N qual scope f cdv A outer s H E) (fun cls d _ H => E cls d H) := takes_of rfl rfl rfl rfl
    exact ps_raise rfl tk (mk_bare PySem.F.excBase_ValueError h2 h1 h3 (raises_own h4 h5) hg (okN_db ho).1)

theorem fn_top (W : Wd P w K mg base T Tb fa ex) {N : List Str} {qual : Str} {scope : Scope} {f : Addr} {cdv : Value} {A : Around} {outer : List Env} {s : Shared} {H : Hp} {E : XK} : TopC T ex (CX P w) (cxOf (CX P w) P w K mg base N qual scope f cdv A outer s H E) :=
  ⟨rfl, rfl, rfl, W.exc, W.whi⟩
theorem rlws_get {ρ : Rho} {H : Hp} : ∀ {ws : List W} {vs : List V}, RlWs K fa ρ H ws vs → ws.length = vs.length ∧ ∀ (i : Nat) (w : W), ws[i]? = some w → ∃ v, vs[i]? = some v ∧ RlW K fa ρ H w v
  | [], vs, h => by
    have : vs = [] := h
    subst this; exact ⟨rfl, fun i w e => by simp at e⟩
  | x :: ws, vs, h => by
    obtain ⟨v, r, rfl, h1, h2⟩ := h
    obtain ⟨l, g⟩ := rlws_get h2
    refine ⟨by simp [l], fun i w e => ?_⟩
    cases i with
    | zero => simp only [List.getElem?_cons_zero, Option.some.injEq] at e; subst e; exact ⟨v, rfl, h1⟩
    | succ i => simpa using g i w (by simpa using e)
theorem entry_sls {ρ : Rho} {H : Hp} {ws : List W} {vs : List V} {fn : Fn} {N : List Str} (h : RlWs K fa ρ H ws vs) (hN : N.length = fn.ns) : Sls K fa ρ H (entry fn ws) (start N vs) := by
  obtain ⟨l, g⟩ := rlws_get h
  refine ⟨by simp [entry, L2.start, l, hN], fun i w e => ?_⟩
  simp only [entry] at e
  by_cases hi : i < ws.length
  · rw [List.getElem?_append_left (by simpa using hi)] at e
    simp only [List.getElem?_map, Option.map_eq_some_iff] at e
    obtain ⟨x, e1, e2⟩ := e
    simp only [Option.some.injEq] at e2; subst e2
    obtain ⟨v, e3, r⟩ := g i x e1
    refine ⟨v, ?_, r⟩
    simp only [L2.start]
    rw [List.getElem?_append_left (by simpa [← l] using hi)]
    simp [e3]
  · rw [List.getElem?_append_right (by simpa using hi)] at e
    simp only [List.getElem?_replicate] at e
    split at e <;> simp at e
theorem df_zero {f : Nat} {a : Addr} (h : DefF K T Tb f a) : ∃ (fd : FuncData) (ps : List Str), Binds K fd ps [] ∧ FnOk P w K mg base (CX P w) 0 a fd ps (spF K fa ex Tb 0 f) := by
  obtain ⟨fn, s, qual, params, body, scope, fd, N, ps, h1, h4, h5, h6, h7, h8, h9⟩ := h
  refine ⟨fd, ps, h8, ⟨fun vs H Q E ⟨ρ, ws, M, _, _, q⟩ => ?_, fun A outer s H args us vs Q E _ _ _ _ ⟨ρ, ws, M, _, _, q⟩ => ?_⟩⟩
  · simp only [call] at q; exact q.elim
  · simp only [call] at q; exact q.elim
theorem df_succ (W : Wd P w K mg base T Tb fa ex) {k : Nat} (L : Lv P w K mg base T Tb fa ex k ∧ ∀ j, k = j + 1 → Lv P w K mg base T Tb fa ex j) {f : Nat} {a : Addr} (h : DefF K T Tb f a) :
    ∃ (fd : FuncData) (ps : List Str), Binds K fd ps [] ∧ FnOk P w K mg base (CX P w) (k + 1) a fd ps (spF K fa ex Tb (k + 1) f) := by
  obtain ⟨fn, s, qual, params, body, scope, fd, N, ps, h1, h4, h5, h6, h7, h8, h9⟩ := h
  refine ⟨fd, ps, h8, ?_⟩
  have ec : ∀ ws M, call Tb (k + 1) f ws M = if ws.length = fn.np then fin M.length (evSs (call Tb k) fn.body (entry fn ws) M) else .bad := fun ws M => by simp only [call, h1]
  refine FunD.ok h4 h5 (fun vs H Q E ⟨ρ, ws, M, rl, _, q⟩ => ?_) fun cdv A outer s H vs Q E hr ⟨ρ, ws, M, rl, rp, q⟩ => ?_
  · rw [ec] at q
    split at q
    · rename_i hl; rw [← (rlws_get rl).1, hl, h6]
    · exact q.elim
  · rw [ec] at q
    split at q
    · refine ⟨_, sndSs fn.body (fn_ctx W L h5 hr) (fn_top W) h9, ρ, entry fn ws, M, entry_sls rl h7, rp, fin_ok rp q⟩
    · exact q.elim
theorem lv_of (W : Wd P w K mg base T Tb fa ex) {k : Nat} (D : ∀ {f : Nat} {a : Addr}, DefF K T Tb f a → ∃ (fd : FuncData) (ps : List Str), Binds K fd ps [] ∧ FnOk P w K mg base (CX P w) k a fd ps (spF K fa ex Tb k f)) : Lv P w K mg base T Tb fa ex k where
  fns := fun f s h => by
    obtain ⟨fn, a, qual, params, body, scope, fd, N, ps, h1, h2, h3, h4, h5, h6, h7, h8, h9⟩ := W.fns f s h
    obtain ⟨fd', ps', g1, g2⟩ := D ⟨fn, s, qual, params, body, scope, fd, N, ps, h1, h4, h5, h6, h7, h8, h9⟩
    exact ⟨a, fd', ps', h2, h3, h4.kp, g1, g2⟩
  mth := fun f m h => by
    obtain ⟨a, h1, h2⟩ := W.mth f m h
    obtain ⟨fd', ps', g1, g2⟩ := D h2
    exact ⟨a, fd', ps', h1, g1, g2⟩
  ini := fun f g s h a hk => by
    obtain ⟨_, _, a', h3, h4⟩ := W.mkr f g s h
    have e : a = a' := by
      have := hk.init.symm.trans h3.init
      simpa using this
    subst e
    exact D h4
theorem fn_all (W : Wd P w K mg base T Tb fa ex) : ∀ k : Nat, Lv P w K mg base T Tb fa ex k ∧ ∀ j, k = j + 1 → Lv P w K mg base T Tb fa ex j
  | 0 => ⟨lv_of W df_zero, fun j e => by omega⟩
  | k + 1 => ⟨lv_of W fun h => df_succ W (fn_all W k) h, fun j e => by
    have : j = k := by omega
    subst this; exact (fn_all W j).1⟩
end
end G

set_option Elab.async false
set_option linter.all false
set_option autoImplicit false
set_option maxRecDepth 100000
set_option maxHeartbeats 4000000
/-! Soundness, part 16: a law's module. -/
namespace G
open PySem PySem.Spec PyProof.Rows L2

section
variable (K : PySem.W.Frag) (fa : Nat → Option Addr)
mutual
/-- a module's value -/
def kv : D → Value → Bool
  | .non, .none => true
  | .bl b, .bool c => b == c
  | .int i, .int j _ => decide (i = j)
  | .str z, .str y _ => decide (y = ⟨z.toArray⟩)
  | .ktup ds, .ref a => (match K.lookup a with
    | some ⟨.type c, _, .seq its _, _⟩ => decide (c = "tuple") && (decide (its.size ≤ sizeLine) && kvs ds its.toList)
    | _ => false)
  | .fn i, .ref a => decide (fa i = some a)
  | _, _ => false
def kvs : List D → List Value → Bool
  | [], [] => true
  | d :: ds, u :: us => kv d u && kvs ds us
  | _, _ => false
end
end
section
variable {K : PySem.W.Frag} {fa : FW}
mutual
theorem kv_ok : ∀ (x : D) {u : Value}, kv K fa.f x u = true → ∃ v, RelV v u ∧ ∀ m H, Rl K fa m H x v
  | .non, u, h => by cases u <;> simp [kv] at h; exact ⟨.non, rfl, fun m H => by simp [Rl]⟩
  | .bl b, u, h => by cases u <;> simp [kv] at h; subst h; exact ⟨.bl b, rfl, fun m H => by simp [Rl]⟩
  | .int i, u, h => by cases u <;> simp [kv] at h; subst h; exact ⟨.int i, ⟨_, rfl⟩, fun m H => by simp [Rl]⟩
  | .str z, u, h => by cases u <;> simp [kv] at h; subst h; exact ⟨.str ⟨z.toArray⟩, ⟨_, rfl⟩, fun m H => by simp [Rl]⟩
  | .ktup ds, u, h => by
    cases u with
    | ref a =>
      simp only [kv] at h
      split at h
      · rename_i c d its n sl q
        simp only [Bool.and_eq_true, decide_eq_true_eq] at h
        obtain ⟨h1, h2, h3⟩ := h
        obtain ⟨vs, r1, r2⟩ := kvs_ok ds h3
        refine ⟨.ref a, rfl, fun m H => ?_⟩
        simp only [Rl]
        exact ⟨a, vs, rfl, fun H' => .inr ⟨_, its, n, q, congrArg Value.type h1, rfl, h2, r1⟩, r2 m H⟩
      · cases h
    | _ => simp [kv] at h
  | .fn i, u, h => by
    cases u with
    | ref a =>
      simp only [kv, decide_eq_true_eq] at h
      exact ⟨.ref a, rfl, fun m H => by simp only [Rl]; exact ⟨a, h, rfl⟩⟩
    | _ => simp [kv] at h
  | .tup _, u, h => by cases u <;> simp [kv] at h
  | .lst _, u, h => by cases u <;> simp [kv] at h
  | .frz _, u, h => by cases u <;> simp [kv] at h
  | .dct _ _, u, h => by cases u <;> simp [kv] at h
  | .dcf _ _, u, h => by cases u <;> simp [kv] at h
theorem kvs_ok : ∀ (xs : List D) {us : List Value}, kvs K fa.f xs us = true → ∃ vs, Vals vs us ∧ ∀ m H, Rls K fa m H xs vs
  | [], us, h => by cases us <;> simp [kvs] at h; exact ⟨[], .nil, fun m H => by simp [Rls]⟩
  | x :: xs, us, h => by
    cases us with
    | nil => simp [kvs] at h
    | cons u us =>
      simp only [kvs, Bool.and_eq_true] at h
      obtain ⟨v, r1, r2⟩ := kv_ok x h.1
      obtain ⟨vs, r3, r4⟩ := kvs_ok xs h.2
      exact ⟨v :: vs, .cons r1 r3, fun m H => .cons (r2 m H) (r4 m H)⟩
end
end

def faOf (T : Tab) (K : PySem.W.Frag) (P : Program) (w : World) : FW := ⟨fun f => (T.f.lookup f).map fun s => He.ga K s, P, w, He.ga K "SortedList"⟩
def exOf (T : Tab) (K : PySem.W.Frag) (c : Nat) : Addr := match T.x.lookup c with
  | some s => He.ga K s
  | none => 0
def faC (T : Tab) : List He.Fa := if T.c then [He.Fa.cls "SortedList", He.Fa.noat "SortedList" "spec", He.Fa.noat "SortedList" "rows", He.Fa.glo "SortedList", He.Fa.mkr "SortedList"] else []
/-- the names of a try -/
def faW (T : Tab) : List He.Fa := if T.t then He.Fa.glo "SortError" :: He.Fa.glo "_law_which" :: nine.map He.Fa.glo else []
def faL (T : Tab) : List He.Fa := bltNames.map He.Fa.free ++ (T.f.map (fun q => He.Fa.glo q.2) ++ (T.x.map (fun q => He.Fa.glo q.2) ++ (T.x.map (fun q => He.Fa.exc q.2) ++ (T.h.map (fun q => He.Fa.meth "SortedList" q.2) ++ (faC T ++ faW T)))))
/-- an own exception class, as isinstance sees it -/
def excB (K : PySem.W.Frag) (D : Addr) : Bool :=
  He.eqO (PySem.W.findIn K (.ref D) "__getattribute__") (some (some (.builtin "BaseException.__getattribute__"))) && (He.eqO (PySem.W.findIn K (.ref D) "__getattr__") (some none) && (decide (PySem.W.subIn K (.ref D) (.type "BaseException") = some true) && (PySem.W.hasDictIn K D &&
    (He.eqO (PySem.W.findIn K (.ref D) "__class__") (some (some (.builtin "object.__class__"))) && (He.eqO (PySem.W.specialIn K (.builtin "object.__class__") "__get__") (some (some (.builtin "getset_descriptor.__get__"))) &&
      (decide (PySem.W.takesIn K (.builtin "object.__class__") = some true) && decide (PySem.W.mroIn K D (.type "object") = some true)))))))
theorem excB_of {K : PySem.W.Frag} {D : Addr} (h : excB K D = true) : ExcC K D := by
  simp only [excB, Bool.and_eq_true, decide_eq_true_eq] at h
  obtain ⟨h1, h2, h3, h4, h5, h6, h7, h8⟩ := h
  exact ⟨He.eqO_ok h1, He.eqO_ok h2, h3, h4, He.eqO_ok h5, He.eqO_ok h6, h7, h8⟩
def whB (T : Tab) (K : PySem.W.Frag) : Bool := !T.t || T.x.all fun q => excB K (He.ga K q.2) && (decide (1 ≤ q.1 ∧ nine[q.1 - 1]? = some q.2) && (nine.all (fun n => decide (PySem.W.kitOne K (.ref (He.ga K q.2)) (.ref (He.ga K n)) = some (decide (n = q.2)))) &&
  (decide (PySem.W.kitOne K (.ref (He.ga K q.2)) (.type "ValueError") = some true) && decide (PySem.W.exmOne K (.ref (He.ga K q.2)) (.ref (He.ga K "SortError")) = some true))))
def xtra (T : Tab) (K : PySem.W.Frag) : Bool := whB T K && T.g.all fun q => match PySem.W.nsIn K mainGlobals q.2.1 with
  | some (some u) => kv K (fun f => (T.f.lookup f).map fun s => He.ga K s) q.2.2 u
  | _ => false

/-! ### the Hook of the head -/
def obG (T : Tab) (fn : List He.DefD) (K : PySem.W.Frag) : Bool × He.AlD := (xtra T K, He.obsD (faL T) fn K)
def obGG (n : Nat) (T : Tab) (fn : List He.DefD) (g : Addr → Option Obj) : Bool × He.AlD := obG T fn (He.frG g (He.asD g n))
def hookG (n : Nat) (T : Tab) (fn : List He.DefD) : PySem.W.Hook where
  α := Bool × He.AlD
  obs := fun s => obGG n T fn s.heap.get?
  val := fun _ => (true, He.valD fn)
  says := fun _ h => ∃ K : PySem.W.Frag, K.In h ∧ xtra T K = true ∧ He.SaysD (faL T) fn K
  of := fun _ _ e => ⟨_, He.frG_in, congrArg Prod.fst e, congrArg Prod.snd e⟩
  keeps := fun _ _ _ ⟨K, hK, c⟩ k => ⟨K, PySem.W.Frag.In.keeps hK k, c⟩
theorem obGG_eq {n : Nat} {T : Tab} {fn : List He.DefD} {g : Addr → Option Obj} {s : Shared} (h : ∀ a, g a = s.heap.get? a) : obGG n T fn g = (hookG n T fn).obs s := by
  have e : g = s.heap.get? := funext h
  rw [e] <;> rfl

/-- what is known of one def -/
def FnFact (K : PySem.W.Frag) (T : Tab) (Tb : Nat → Option Fn) (f : Nat) (s : Str) : Prop :=
  ∃ (fn : Fn) (qual : Str) (params : Arguments) (body : List Stmt) (scope : Scope) (fd : FuncData) (N ps : List Str), Tb f = some fn ∧ T.f.lookup f = some s ∧ FunD K s qual params body scope [] [] (He.ga K s) fd ∧ FnScope N ps scope ∧
    ps.length = fn.np ∧ N.length = fn.ns ∧ Binds K fd ps [] ∧ chkSs T N scope fn.body body = true

/-- the class's defs -/
def ClsFact (K : PySem.W.Frag) (T : Tab) (Tb : Nat → Option Fn) : Prop :=
  (∀ f m, (f, m) ∈ T.h → DefF K T Tb f (He.ma K (He.ga K "SortedList") m)) ∧ ∀ f g s, (f, g, s) ∈ T.m → T.c = true ∧ s = ("SortedList" : Str) ∧ Tb f = some ⟨1, 1, [.mkS g]⟩ ∧ DefF K T Tb g (He.ma K (He.ga K "SortedList") "__init__")
section
variable {P : Program} {w : World} {K : PySem.W.Frag} {mg : Str → Option Value} {base h : Heap} {T : Tab} {Tb : Nat → Option Fn} {fn : List He.DefD}
theorem fact_of {f : He.Fa} (c : He.SaysD (faL T) fn K) (hf : f ∈ faL T) : f.ok K = true := by
  obtain ⟨i, hi, e⟩ := List.getElem_of_mem hf
  exact c.fact i (by rw [List.getElem?_eq_getElem hi, e])
theorem lookup_in {α : Type} {f : Nat} {s : α} : ∀ {l : List (Nat × α)}, l.lookup f = some s → (f, s) ∈ l
  | [], h => by simp at h
  | (g, t) :: l, h => by
    rw [List.lookup_cons] at h
    split at h
    · rename_i e; have := eq_of_beq e; subst this; simp at h; subst h; simp
    · exact List.mem_cons_of_mem _ (lookup_in h)
/-- a key's def, as it stands -/
def KFact (K : PySem.W.Frag) (s : Str) : Prop :=
  ∃ (qual y : Str) (params : Arguments) (body : List Stmt) (scope : Scope) (fd : FuncData), FunD K s qual params body scope [] [] (He.ga K s) fd ∧ FnScope [y] [y] scope ∧ scope.names.lookup y = some .local ∧ keyBody y body = true ∧ (y == ("__debug__" : Str)) = false ∧ Binds K fd [y] []
/-- the def that names an exception, as it stands -/
def WhFact (K : PySem.W.Frag) : Prop :=
  ∃ (qual : Str) (params : Arguments) (body : List Stmt) (scope : Scope) (fd : FuncData), FunD K "_law_which" qual params body scope [] [] (He.ga K "_law_which") fd ∧ FnScope ["error", "own"] ["error"] scope ∧ scope.names.lookup ("error" : Str) = some .local ∧ scope.names.lookup ("own" : Str) = some .local ∧
    Binds K fd ["error"] [] ∧ whichB scope body = true
theorem nine_of {c : Nat} {s : Str} (h : nine[c]? = some s) : (nine.map fun n => decide (n = s)).count true = 1 ∧ (nine.map fun n => decide (n = s)).any id = true ∧ (nine.map fun n => decide (n = s)).findIdx id = c := by
  have hc : c < 9 := (List.getElem?_eq_some_iff.mp h).1
  match c, hc, h with
  | 0, _, h => cases h; decide
  | 1, _, h => cases h; decide
  | 2, _, h => cases h; decide
  | 3, _, h => cases h; decide
  | 4, _, h => cases h; decide
  | 5, _, h => cases h; decide
  | 6, _, h => cases h; decide
  | 7, _, h => cases h; decide
  | 8, _, h => cases h; decide
  | n + 9, hc, _ => omega
theorem wd_of (hwh : T.t = true → WhFact K) (hkf : ∀ f s, (f, s) ∈ T.k → (f, s) ∈ T.f ∧ KFact K s) (X : K.In h) (G : h.Ns mainGlobals mg) (c : He.SaysD (faL T) fn K) (x : xtra T K = true) (hx : (T.x.all fun q => decide (T.x.lookup q.1 = some q.2)) = true) (hf : ∀ f s, (f, s) ∈ T.f → FnFact K T Tb f s) (hcl : ClsFact K T Tb) :
    Wd P w K mg base T Tb (faOf T K P w) (exOf T K) where
  wld := rfl
  prg := rfl
  blt := fun y hy => He.free_ok X G (fact_of c (by simp only [faL, List.mem_append, List.mem_map]; exact .inl ⟨y, hy, rfl⟩))
  con := fun nm s d hd => by
    have := List.all_eq_true.mp (Bool.and_eq_true_iff.mp x).2 _ hd
    simp only at this
    split at this
    · rename_i u hu
      obtain ⟨v, r1, r2⟩ := kv_ok (fa := faOf T K P w) d this
      exact ⟨u, v, PySem.W.mg_of X G hu, r1, r2⟩
    · cases this
  exc := fun e s he => by
    have hl : T.x.lookup e = some s := by simpa using List.all_eq_true.mp hx _ he
    have e1 : exOf T K e = He.ga K s := by simp only [exOf, hl]
    rw [e1]
    have h1 := He.glo_ok X G (x := s) (fact_of c (by simp only [faL, List.mem_append, List.mem_map]; exact .inr (.inr (.inl ⟨_, he, rfl⟩))))
    exact ⟨h1, He.exc_ok (fact_of c (by simp only [faL, List.mem_append, List.mem_map]; exact .inr (.inr (.inr (.inl ⟨_, he, rfl⟩)))))⟩
  cls := fun hc => by
    have hm : ∀ f ∈ faC T, f ∈ faL T := fun f hf => by simp only [faL, List.mem_append]; exact .inr (.inr (.inr (.inr (.inr (.inl hf)))))
    have e : faC T = [He.Fa.cls "SortedList", He.Fa.noat "SortedList" "spec", He.Fa.noat "SortedList" "rows", He.Fa.glo "SortedList", He.Fa.mkr "SortedList"] := by simp only [faC, hc, if_true]
    rw [e] at hm
    exact ⟨He.cls_ok (fact_of c (hm _ (by simp))), He.noat_ok (fact_of c (hm _ (by simp))), He.noat_ok (fact_of c (hm _ (by simp)))⟩
  mth := fun f m hs => by
    refine ⟨_, He.meth_ok (x := "SortedList") (m := m) (fact_of c ?_), hcl.1 f m hs⟩
    simp only [faL, List.mem_append, List.mem_map]; exact .inr (.inr (.inr (.inr (.inl ⟨_, hs, rfl⟩))))
  mkr := fun f g s hs => by
    obtain ⟨hc, rfl, h2, h3⟩ := hcl.2 f g s hs
    have hm : ∀ f ∈ faC T, f ∈ faL T := fun f hf => by simp only [faL, List.mem_append]; exact .inr (.inr (.inr (.inr (.inr (.inl hf)))))
    have e : faC T = [He.Fa.cls "SortedList", He.Fa.noat "SortedList" "spec", He.Fa.noat "SortedList" "rows", He.Fa.glo "SortedList", He.Fa.mkr "SortedList"] := by simp only [faC, hc, if_true]
    rw [e] at hm
    exact ⟨h2, He.glo_ok X G (x := "SortedList") (fact_of c (hm _ (by simp))), _, He.mkr_ok (fact_of c (hm _ (by simp))), h3⟩
  whi := fun ht => by
    obtain ⟨qual, params, body, scope, fd, F, S, v0, v1, hb, hw⟩ := hwh ht
    have hm : ∀ f ∈ faW T, f ∈ faL T := fun f hf => by simp only [faL, List.mem_append]; exact .inr (.inr (.inr (.inr (.inr (.inr hf)))))
    have e : faW T = He.Fa.glo "SortError" :: He.Fa.glo "_law_which" :: nine.map He.Fa.glo := by simp only [faW, ht, if_true]
    rw [e] at hm
    have hx1 : whB T K = true := (Bool.and_eq_true_iff.mp x).1
    rw [whB, ht] at hx1
    simp only [Bool.not_true, Bool.false_or] at hx1
    refine ⟨He.ga K "SortError", He.ga K "_law_which", fd, He.glo_ok X G (x := "SortError") (fact_of c (hm _ (by simp))), He.glo_ok X G (x := "_law_which") (fact_of c (hm _ (by simp))), F.kp, hb, fun n s hn => ?_⟩
    have hl : T.x.lookup n = some s := by simpa using List.all_eq_true.mp hx _ hn
    have e1 : exOf T K n = He.ga K s := by simp only [exOf, hl]
    rw [e1]
    have hq := List.all_eq_true.mp hx1 _ hn
    simp only [Bool.and_eq_true, decide_eq_true_eq] at hq
    obtain ⟨q1, ⟨q2, q3⟩, q4, q5, q6⟩ := hq
    obtain ⟨n1, n2, n3⟩ := nine_of q3
    refine ⟨q6, fnW_of (cl := fun n => He.ga K n) (bs := fun n => decide (n = s)) F S v0 v1 hw (excB_of q1) (He.free_ok X G (fact_of c ?_)) (He.free_ok X G (fact_of c ?_)) (fun m hmn => ⟨He.glo_ok X G (x := m) (fact_of c (hm _ (by simp only [List.mem_cons, List.mem_map]; exact .inr (.inr ⟨m, hmn, rfl⟩)))), ?_⟩) q5 n1 n2 n3, q2⟩
    · simp only [faL, List.mem_append, List.mem_map]; exact .inl ⟨"isinstance", by simp [bltNames], rfl⟩
    · simp only [faL, List.mem_append, List.mem_map]; exact .inl ⟨"ValueError", by simp [bltNames], rfl⟩
    · have := List.all_eq_true.mp q4 m hmn
      simpa using this
  kfn := fun f s hs => by
    obtain ⟨h1, qual, y, params, body, scope, fd, h2, h3, h4, h5, h6, h7⟩ := hkf f s hs
    exact ⟨He.ga K s, s, qual, y, params, body, scope, fd, He.glo_ok X G (x := s) (fact_of c (by simp only [faL, List.mem_append, List.mem_map]; exact .inr (.inl ⟨_, h1, rfl⟩))), h2, h3, h4, h5, h6, h7⟩
  dom := fun f a hf => by
    simp only [faOf, Option.map_eq_some_iff] at hf
    obtain ⟨s, h1, _⟩ := hf
    exact ⟨s, lookup_in h1⟩
  fns := fun f s hs => by
    obtain ⟨fn, qual, params, body, scope, fd, N, ps, h1, h2, h3, h4, h5, h6, h7, h8⟩ := hf f s hs
    have hg := He.glo_ok X G (x := s) (fact_of c (by simp only [faL, List.mem_append, List.mem_map]; exact .inr (.inl ⟨_, hs, rfl⟩)))
    exact ⟨fn, He.ga K s, qual, params, body, scope, fd, N, ps, h1, by simp only [faOf, h2, Option.map_some], hg, h3, h4, h5, h6, h7, h8⟩
end

/-- what the law's def may let out, in whatever world -/
def CXA (P : Program) : CXT := fun o H s E e s' => ∃ w, CX P w o H s E e s'
def EndOf (P : Program) (w : World) (mg : Str → Option Value) (h : Heap) (fa : Addr) (x : Str) (k : Nat) : Prop :=
    ∃ (K : PySem.W.Frag) (fd : FuncData) (sp : Sp), K.In h ∧ (∀ (s : Shared) (u : Value), BindsTo s fd ⟨[u], []⟩ [(x, u)]) ∧
        (∀ (H : Hp) (a : Addr) (ns : List Int), ns.length ≤ 63 → Only H → SqL K H a (ns.map V.int) → sp [.ref a] H (fun v _ => v = .bl true) fun _ _ _ => False) ∧
        ∀ base : Heap, K.In base → base.Ns mainGlobals mg → FnOk P w K mg base (CXA P) k fa fd [x] sp
/-- THE END: the law's def, walked -/
theorem law_end {P : Program} {w : World} {K : PySem.W.Frag} {mg : Str → Option Value} {h : Heap} {T : Tab} {Tb : Nat → Option Fn} {fn : List He.DefD} {k f : Nat} {fa : Addr} {x : Str}
    (X : K.In h) (G : h.Ns mainGlobals mg) (c : He.SaysD (faL T) fn K) (xt : xtra T K = true) (hx : (T.x.all fun q => decide (T.x.lookup q.1 = some q.2)) = true) (hf : ∀ f s, (f, s) ∈ T.f → FnFact K T Tb f s) (hcl : ClsFact K T Tb) (hwh : T.t = true → WhFact K) (hkf : ∀ f s, (f, s) ∈ T.k → (f, s) ∈ T.f ∧ KFact K s) (hl : (f, ("law" : Str)) ∈ T.f) (hm : mg ("law" : Str) = some (.ref fa))
    (hb : ∃ fd, (∀ (s : Shared) (u : Value), BindsTo s fd ⟨[u], []⟩ [(x, u)]) ∧ ∃ N qual params body scope, FunD K "law" qual params body scope [] [] (He.ga K "law") fd ∧ FnScope N [x] scope ∧ ∃ fnL, Tb f = some fnL ∧ fnL.np = 1 ∧ N.length = fnL.ns ∧ chkSs T N scope fnL.body body = true)
    (hlaw : ∀ ns : List Int, ns.length ≤ 63 → ∃ M, call Tb (k + 1) f [.d (.frz (ns.map .int))] [] = .ok (.d (.bl true)) M) :
    EndOf P w mg h fa x (k + 1) := by
  obtain ⟨fd, bd, N, qual, params, body, scope, F, S, fnL, t1, t2, t3, t4⟩ := hb
  have hg : mg ("law" : Str) = some (.ref (He.ga K "law")) := He.glo_ok X G (fact_of c (by simp only [faL, List.mem_append, List.mem_map]; exact .inr (.inl ⟨_, hl, rfl⟩)))
  rw [hm] at hg
  simp only [Option.some.injEq, Value.ref.injEq] at hg
  subst hg
  refine ⟨K, fd, spF K (faOf T K P w) (exOf T K) Tb (k + 1) f, X, bd, fun H a ns hn ho hs => ?_, fun base bX bG => ?_⟩
  · obtain ⟨M, e⟩ := hlaw ns hn
    refine ⟨⟨[], []⟩, [.d (.frz (ns.map .int))], [], ⟨.ref a, [], rfl, ?_, rfl⟩, ⟨rfl, by simp, by simp, fun l o e => by simp at e⟩, ?_⟩
    · have hr : ∀ (m : Addr → Prop) (ns : List Int), Rls K (faOf T K P w) m H (ns.map D.int) (ns.map V.int) := by
        intro m ns
        induction ns with
        | nil => simp [Rls]
        | cons n ns ih => exact .cons (by simp [Rl]) ih
      simp only [RlW, Rl]
      refine ⟨a, ns.map V.int, rfl, ?_, hr _ ns⟩
      rcases hs with (h1 | ⟨o, h1⟩) | h1
      · rcases ho a with h2 | ⟨o, xs, h2⟩
        · rw [h2] at h1; cases h1
        · rw [h2] at h1; cases h1
      · exact .inl ⟨o, fun z => by simp [mu] at z, h1⟩
      · exact .inr fun H' => .inr h1
    · rw [e]
      intro ρ' H' b _ _ rl
      exact rl
  · have W : Wd P w K mg base T Tb (faOf T K P w) (exOf T K) := wd_of hwh hkf bX bG c xt hx hf hcl
    have ok : FnOk P w K mg base (CX P w) (k + 1) (He.ga K "law") fd [x] (spF K (faOf T K P w) (exOf T K) Tb (k + 1) f) := by
      have ec : ∀ ws M, call Tb (k + 1) f ws M = if ws.length = fnL.np then fin M.length (evSs (call Tb k) fnL.body (entry fnL ws) M) else .bad := fun ws M => by simp only [call, t1]
      refine FunD.ok F S (fun vs H Q E ⟨ρ, ws, M, rl, _, q⟩ => ?_) fun cdv A outer s H vs Q E hr ⟨ρ, ws, M, rl, rp, q⟩ => ?_
      · rw [ec] at q
        split at q
        · rename_i hl; rw [← (rlws_get rl).1, hl, t2]; rfl
        · exact q.elim
      · rw [ec] at q
        split at q
        · exact ⟨_, sndSs fnL.body (fn_ctx W (fn_all W k) S hr) (fn_top W) t4, ρ, entry fnL ws, M, entry_sls rl t3, rp, fin_ok rp q⟩
        · exact q.elim
    exact ⟨ok.len, fun A outer s H args us vs Q E hr he hb hv hs => codeAny_mono (ok.run A outer s H args us vs Q E hr he hb hv hs) fun r s' hr => by
      cases r with
      | ok v => cases v <;> exact hr
      | error e => exact ⟨w, hr⟩⟩
theorem cxa_no {P : Program} (H : Hp) (s : Shared) (e : Value) (s' : Shared) (h : CXA P [] H s (fun _ _ _ => False) e s') : False := by
  obtain ⟨w, a, B, H', cls, d, _, _, _, _, _, _, _, h⟩ := h
  exact h
end G

set_option autoImplicit false
/-! The defs of the program and of the laws, printed by gen.py. -/
namespace G
abbrev F_kind_of : Nat := 0
abbrev F_spelling_of : Nat := 1
abbrev F_is_record : Nat := 2
abbrev F_are_groups : Nat := 3
abbrev F_is_step : Nat := 4
abbrev F_is_width : Nat := 5
abbrev F_is_spec : Nat := 6
abbrev F_need_spec : Nat := 7
abbrev F_need_record : Nat := 8
abbrev F_need_pair : Nat := 9
abbrev F_sign : Nat := 10
abbrev F_rank : Nat := 11
abbrev F_step_result : Nat := 12
abbrev F_compared : Nat := 13
abbrev F_compare : Nat := 14
abbrev F_reversed_step : Nat := 15
abbrev F_reversed_spec : Nat := 16
abbrev F_combined : Nat := 17
abbrev F_law_draw : Nat := 18
abbrev F_law_pick : Nat := 19
abbrev F_law_groups : Nat := 20
abbrev F_law_step : Nat := 21
abbrev F_law_spec : Nat := 22
abbrev F_law_order : Nat := 23
abbrev F_law_value : Nat := 24
abbrev F_law_record : Nat := 25
abbrev F_law_kind : Nat := 26
abbrev F_law_sign : Nat := 27
abbrev F_law_result : Nat := 28
abbrev F_law_compare : Nat := 29
abbrev F_law_size : Nat := 30
abbrev F_law_k01 : Nat := 31
abbrev F_law_which : Nat := 32
abbrev F_law_ask : Nat := 33
abbrev F_law_invalid : Nat := 34
abbrev F_law_k02 : Nat := 35
abbrev F_size_of : Nat := 36
abbrev F_field_steps : Nat := 37
abbrev F_triple_profiles : Nat := 38
abbrev F_results : Nat := 39
abbrev F_combinations : Nat := 40
abbrev F_first_part : Nat := 41
abbrev F_as_records : Nat := 42
abbrev F_violation_in : Nat := 43
abbrev F_smallest_violation : Nat := 44
abbrev F_violation : Nat := 45
abbrev F_is_consistent : Nat := 46
abbrev F_law_values : Nat := 47
abbrev F_law_known : Nat := 48
abbrev F_law_k03 : Nat := 49
abbrev F_law_k04 : Nat := 50
abbrev F_without : Nat := 51
abbrev F_choices : Nat := 52
abbrev F_projected : Nat := 53
abbrev F_is_repair : Nat := 54
abbrev F_repair : Nat := 55
abbrev F_law_k05 : Nat := 56
abbrev F_pair_profiles : Nat := 57
abbrev F_smallest_pair : Nat := 58
abbrev F_differ : Nat := 59
abbrev F_contradicts : Nat := 60
abbrev F_difference : Nat := 61
abbrev F_not_refined : Nat := 62
abbrev F_law_near : Nat := 63
abbrev F_law_k06 : Nat := 64
abbrev F_redundant : Nat := 65
abbrev F_law_k07 : Nat := 66
abbrev F_are_records : Nat := 67
abbrev F_need_records : Nat := 68
abbrev F_need_consistent : Nat := 69
abbrev F_ascends : Nat := 70
abbrev F_need_sorted : Nat := 71
abbrev F_merged : Nat := 72
abbrev F_sorted_by : Nat := 73
abbrev F_need_sortable : Nat := 74
abbrev F_sort : Nat := 75
abbrev F_is_sorted : Nat := 76
abbrev F_place_for : Nat := 77
abbrev F_insert : Nat := 78
abbrev F_merge : Nat := 79
abbrev F_groups : Nat := 80
abbrev F_law_sorted : Nat := 81
abbrev F_law_rises : Nat := 82
abbrev F_law_k08 : Nat := 83
abbrev F_law_ask_v2 : Nat := 84
abbrev F_law_k09 : Nat := 85
abbrev F_SortedListX_initX : Nat := 86
abbrev F_SortedList_add : Nat := 87
abbrev F_SortedList_remove : Nat := 88
abbrev F_SortedList_records : Nat := 89
abbrev F_SortedList_between : Nat := 90
abbrev F_SortedList_copy : Nat := 91
abbrev F_SortedListX_lenX : Nat := 92
abbrev F_law_do : Nat := 93
abbrev F_law_k10 : Nat := 94
abbrev F_wall : Nat := 95
abbrev F_SortedList_copy_v2 : Nat := 96
abbrev F_law_made : Nat := 97
abbrev F_law_k11 : Nat := 98
abbrev F_step_line : Nat := 99
abbrev F_formatted : Nat := 100
abbrev F_format_spec : Nat := 101
abbrev F_digit : Nat := 102
abbrev F_parsed_step : Nat := 103
abbrev F_parse_spec : Nat := 104
abbrev F_law_lines : Nat := 105
abbrev F_law_ask_v3 : Nat := 106
abbrev F_law_k12 : Nat := 107
abbrev F_law_k13 : Nat := 108
abbrev F_law_exchanged : Nat := 109
abbrev F_law_total : Nat := 110
abbrev F_law_k14 : Nat := 111
abbrev F_law_k15 : Nat := 112
abbrev F_SortedList_remove_v2 : Nat := 113
abbrev F_SortedList_between_v2 : Nat := 114
abbrev F_SortedList_copy_v3 : Nat := 115
abbrev F_law_bags : Nat := 116
abbrev F_law_k16 : Nat := 117
abbrev F_law_large : Nat := 118
abbrev F_law_k17 : Nat := 119
abbrev F_law_any_step : Nat := 120
abbrev F_law_k18 : Nat := 121
abbrev F_SortedList_copy_v4 : Nat := 122
abbrev F_law_rest : Nat := 123
abbrev F_law_k19 : Nat := 124
abbrev F_law_far : Nat := 125
abbrev F_law_near_v2 : Nat := 126
abbrev F_law_k20 : Nat := 127
abbrev F_law_twice : Nat := 128
abbrev F_law_sorted_v2 : Nat := 129
abbrev F_law_k21 : Nat := 130
abbrev F_law_k22 : Nat := 131
abbrev F_law_sorted_v3 : Nat := 132
abbrev F_law_k23 : Nat := 133
abbrev F_SortedList_make : Nat := 134
abbrev c_LETTERS : D := .str [97, 98, 99, 100, 101, 102, 103, 104, 105, 106, 107, 108, 109, 110, 111, 112, 113, 114, 115, 116, 117, 118, 119, 120, 121, 122]
abbrev c_LARGEST : D := .int 999999999
abbrev c_LETTERS_MOST : D := .int 12
abbrev c_STEPS : D := .int 6
abbrev c_KINDS : D := .ktup [.str [110, 111, 110, 101], .str [110, 117, 109, 98, 101, 114], .str [116, 101, 120, 116]]
abbrev c_NAMES : D := .ktup [.str [110, 117, 109, 98, 101, 114], .str [116, 101, 120, 116], .str [108, 101, 110, 103, 116, 104], .str [115, 112, 101, 108, 108, 105, 110, 103]]
abbrev c_NUMBERS : D := .ktup [.int 0, .int 1, .int 2, .int 10]
abbrev c_TEXTS : D := .ktup [.str [97], .str [98], .str [99], .str [97, 97], .str [98, 98]]
abbrev c_VALUES : D := .ktup [.non, .int 0, .int 1, .int 2, .int 10, .str [97], .str [98], .str [99], .str [97, 97], .str [98, 98]]
abbrev c_DIGITS : D := .str [48, 49, 50, 51, 52, 53, 54, 55, 56, 57]
abbrev X_SortError : Nat := 0
abbrev X_InvalidSpec : Nat := 1
abbrev X_InvalidRecord : Nat := 2
abbrev X_InvalidList : Nat := 3
abbrev X_Incomparable : Nat := 4
abbrev X_TooLong : Nat := 5
abbrev X_Inconsistent : Nat := 6
abbrev X_Unsorted : Nat := 7
abbrev X_NotFound : Nat := 8
abbrev X_InvalidFormat : Nat := 9
def b_kind_of : List Sm :=
  [.iff (.op .is_ (.v 0) (.c (.non))) [.ret (.c (.str [110, 111, 110, 101]))] [],
    .iff (.and [(.un .isInt (.v 0)), (.not (.un .isBool (.v 0))), (.chain .le .le (.c (.int 0)) (.v 0) (.g 1 c_LARGEST))]) [.ret (.c (.str [110, 117, 109, 98, 101, 114]))] [],
    .iff (.and [(.un .isStr (.v 0)), (.chain .le .le (.c (.int 1)) (.bi .len [(.v 0)]) (.g 2 c_LETTERS_MOST)), (.bi .all [(.comp 0 (.nm 1) (.seq (.v 0)) none (.op .in_ (.v 1) (.g 0 c_LETTERS)))])]) [.ret (.c (.str [116, 101, 120, 116]))] [],
    .ret (.c (.str []))]
def fn_kind_of : Fn := ⟨1, 2, b_kind_of⟩
def b_spelling_of : List Sm :=
  [.ret (.ife (.un .isStr (.v 0)) (.v 0) (.bi .str [(.v 0)]))]
def fn_spelling_of : Fn := ⟨1, 1, b_spelling_of⟩
def b_is_record : List Sm :=
  [.ret (.and [(.un .isTup (.v 0)), (.op .eq (.bi .len [(.v 0)]) (.v 1)), (.bi .all [(.comp 0 (.nm 2) (.seq (.v 0)) none (.op .ne (.call F_kind_of [(.v 2)]) (.c (.str []))))])])]
def fn_is_record : Fn := ⟨2, 3, b_is_record⟩
def b_are_groups : List Sm :=
  [.iff (.or [(.not (.un .isTup (.v 0))), (.not (.bi .all [(.comp 0 (.nm 2) (.seq (.v 0)) none (.and [(.un .isTup (.v 2)), (.op .ne (.v 2) (.tup []))]))]))]) [.ret (.c (.bl false))] [],
    .asg (.nm 1) (.comp2 (.nm 2) (.seq (.v 0)) (.nm 3) (.seq (.v 2)) (.v 3)),
    .iff (.or [(.not (.bi .all [(.comp 0 (.nm 3) (.seq (.v 1)) none (.un .isStr (.v 3)))])), (.op .ne (.bi .tuple [(.sorted (.v 1))]) (.g 4 c_KINDS))]) [.ret (.c (.bl false))] [],
    .ret (.bi .all [(.comp 0 (.nm 2) (.seq (.v 0)) none (.op .eq (.bi .tuple [(.sorted (.v 2))]) (.v 2)))])]
def fn_are_groups : Fn := ⟨1, 4, b_are_groups⟩
def b_is_step : List Sm :=
  [.iff (.or [(.not (.un .isTup (.v 0))), (.op .ne (.bi .len [(.v 0)]) (.c (.int 3))), (.not (.un .isStr (.op .ix (.v 0) (.c (.int 0)))))]) [.ret (.c (.bl false))] [],
    .asg (.tup [(.nm 2), (.nm 3), (.nm 4)]) (.v 0),
    .iff (.or [(.not (.un .isInt (.v 3))), (.un .isBool (.v 3)), (.not (.chain .le .lt (.c (.int 0)) (.v 3) (.v 1)))]) [.ret (.c (.bl false))] [],
    .iff (.op .eq (.v 2) (.c (.str [114, 97, 110, 107]))) [.ret (.call F_are_groups [(.v 4)])] [],
    .ret (.and [(.op .in_ (.v 2) (.g 5 c_NAMES)), (.un .isStr (.v 4)), (.op .in_ (.v 4) (.tup [(.c (.str [97, 115, 99])), (.c (.str [100, 101, 115, 99]))]))])]
def fn_is_step : Fn := ⟨2, 5, b_is_step⟩
def b_is_width : List Sm :=
  [.ret (.and [(.un .isInt (.v 0)), (.not (.un .isBool (.v 0))), (.chain .le .le (.c (.int 1)) (.v 0) (.c (.int 2)))])]
def fn_is_width : Fn := ⟨1, 1, b_is_width⟩
def b_is_spec : List Sm :=
  [.iff (.or [(.not (.un .isTup (.v 0))), (.op .ne (.bi .len [(.v 0)]) (.c (.int 2))), (.not (.call F_is_width [(.op .ix (.v 0) (.c (.int 0)))])), (.not (.un .isTup (.op .ix (.v 0) (.c (.int 1)))))]) [.ret (.c (.bl false))] [],
    .ret (.and [(.op .le (.bi .len [(.op .ix (.v 0) (.c (.int 1)))]) (.g 3 c_STEPS)), (.bi .all [(.comp 0 (.nm 1) (.seq (.op .ix (.v 0) (.c (.int 1)))) none (.call F_is_step [(.v 1), (.op .ix (.v 0) (.c (.int 0)))]))])])]
def fn_is_spec : Fn := ⟨1, 2, b_is_spec⟩
def b_need_spec : List Sm :=
  [.iff (.not (.call F_is_spec [(.v 0)])) [.rse X_InvalidSpec] []]
def fn_need_spec : Fn := ⟨1, 1, b_need_spec⟩
def b_need_record : List Sm :=
  [.iff (.not (.call F_is_record [(.v 1), (.op .ix (.v 0) (.c (.int 0)))])) [.rse X_InvalidRecord] []]
def fn_need_record : Fn := ⟨2, 2, b_need_record⟩
def b_need_pair : List Sm :=
  [.ex (.call F_need_spec [(.v 0)]),
    .ex (.call F_need_spec [(.v 1)]),
    .iff (.op .ne (.op .ix (.v 0) (.c (.int 0))) (.op .ix (.v 1) (.c (.int 0)))) [.rse X_Incomparable] []]
def fn_need_pair : Fn := ⟨2, 2, b_need_pair⟩
def b_sign : List Sm :=
  [.ret (.op .sub (.op .gt (.v 0) (.v 1)) (.op .lt (.v 0) (.v 1)))]
def fn_sign : Fn := ⟨2, 2, b_sign⟩
def b_rank : List Sm :=
  [.ret (.un .indexTrue (.comp 0 (.nm 2) (.seq (.v 0)) none (.op .in_ (.v 1) (.v 2))))]
def fn_rank : Fn := ⟨2, 3, b_rank⟩
def b_step_result : List Sm :=
  [.asg (.tup [(.nm 3), (.nm 4), (.nm 5)]) (.v 0),
    .asg (.nm 6) (.tup [(.call F_kind_of [(.v 1)]), (.call F_kind_of [(.v 2)])]),
    .iff (.op .eq (.v 3) (.c (.str [114, 97, 110, 107]))) [.ret (.call F_sign [(.call F_rank [(.v 5), (.op .ix (.v 6) (.c (.int 0)))]), (.call F_rank [(.v 5), (.op .ix (.v 6) (.c (.int 1)))])])] [],
    .asg (.nm 7) (.c (.int 0)),
    .iff (.and [(.op .eq (.v 3) (.c (.str [110, 117, 109, 98, 101, 114]))), (.op .eq (.v 6) (.tup [(.c (.str [110, 117, 109, 98, 101, 114])), (.c (.str [110, 117, 109, 98, 101, 114]))]))]) [.asg (.nm 7) (.call F_sign [(.v 1), (.v 2)])] [.iff (.and [(.op .eq (.v 3) (.c (.str [116, 101, 120, 116]))), (.op .eq (.v 6) (.tup [(.c (.str [116, 101, 120, 116])), (.c (.str [116, 101, 120, 116]))]))]) [.asg (.nm 7) (.call F_sign [(.v 1), (.v 2)])] [.iff (.and [(.op .eq (.v 3) (.c (.str [108, 101, 110, 103, 116, 104]))), (.op .eq (.v 6) (.tup [(.c (.str [116, 101, 120, 116])), (.c (.str [116, 101, 120, 116]))]))]) [.asg (.nm 7) (.call F_sign [(.bi .len [(.v 1)]), (.bi .len [(.v 2)])])] [.iff (.and [(.op .eq (.v 3) (.c (.str [115, 112, 101, 108, 108, 105, 110, 103]))), (.op .notin (.c (.str [110, 111, 110, 101])) (.v 6))]) [.asg (.nm 7) (.call F_sign [(.call F_spelling_of [(.v 1)]), (.call F_spelling_of [(.v 2)])])] []]]],
    .ret (.ife (.op .eq (.v 5) (.c (.str [100, 101, 115, 99]))) (.op .sub (.c (.int 0)) (.v 7)) (.v 7))]
def fn_step_result : Fn := ⟨3, 8, b_step_result⟩
def b_compared : List Sm :=
  [.for_ (.nm 3) (.seq (.v 0)) [.asg (.nm 4) (.call F_step_result [(.v 3), (.op .ix (.v 1) (.op .ix (.v 3) (.c (.int 1)))), (.op .ix (.v 2) (.op .ix (.v 3) (.c (.int 1))))]),
      .iff (.op .ne (.v 4) (.c (.int 0))) [.ret (.v 4)] []],
    .ret (.c (.int 0))]
def fn_compared : Fn := ⟨3, 5, b_compared⟩
def b_compare : List Sm :=
  [.ex (.call F_need_spec [(.v 0)]),
    .ex (.call F_need_record [(.v 0), (.v 1)]),
    .ex (.call F_need_record [(.v 0), (.v 2)]),
    .ret (.call F_compared [(.op .ix (.v 0) (.c (.int 1))), (.v 1), (.v 2)])]
def fn_compare : Fn := ⟨3, 3, b_compare⟩
def b_reversed_step : List Sm :=
  [.asg (.tup [(.nm 1), (.nm 2), (.nm 3)]) (.v 0),
    .iff (.op .eq (.v 1) (.c (.str [114, 97, 110, 107]))) [.ret (.tup [(.v 1), (.v 2), (.rev (.v 3))])] [],
    .ret (.tup [(.v 1), (.v 2), (.ife (.op .eq (.v 3) (.c (.str [97, 115, 99]))) (.c (.str [100, 101, 115, 99])) (.c (.str [97, 115, 99])))])]
def fn_reversed_step : Fn := ⟨1, 4, b_reversed_step⟩
def b_reversed_spec : List Sm :=
  [.ex (.call F_need_spec [(.v 0)]),
    .ret (.tup [(.op .ix (.v 0) (.c (.int 0))), (.bi .tuple [(.comp 0 (.nm 1) (.seq (.op .ix (.v 0) (.c (.int 1)))) none (.call F_reversed_step [(.v 1)]))])])]
def fn_reversed_spec : Fn := ⟨1, 2, b_reversed_spec⟩
def b_combined : List Sm :=
  [.ex (.call F_need_pair [(.v 0), (.v 1)]),
    .asg (.nm 2) (.op .add (.op .ix (.v 0) (.c (.int 1))) (.op .ix (.v 1) (.c (.int 1)))),
    .iff (.op .gt (.bi .len [(.v 2)]) (.g 3 c_STEPS)) [.rse X_TooLong] [],
    .ret (.tup [(.op .ix (.v 0) (.c (.int 0))), (.v 2)])]
def fn_combined : Fn := ⟨2, 3, b_combined⟩
def b_law_draw : List Sm :=
  [.iff (.op .gt (.op .ix (.v 1) (.c (.int 1))) (.c (.int 0))) [.asg (.nm 5) (.op .mod (.op .ix (.v 1) (.c (.int 1))) (.v 2)),
      .set (.v 1) (.c (.int 1)) (.op .fdiv (.op .ix (.v 1) (.c (.int 1))) (.v 2)),
      .ret (.v 5)] [],
    .asg (.nm 3) (.op .ix (.v 1) (.c (.int 0))),
    .augix (.v 1) (.c (.int 0)) .add (.c (.int 1)),
    .iff (.op .eq (.v 0) (.lst 0 [])) [.ret (.op .mod (.v 3) (.v 2))] [],
    .iff (.and [(.op .lt (.v 3) (.bi .len [(.v 0)])), (.op .ge (.op .ix (.v 0) (.v 3)) (.op .pow (.c (.int 10)) (.c (.int 18))))]) [.set (.v 1) (.c (.int 1)) (.op .mod (.op .fdiv (.op .ix (.v 0) (.v 3)) (.v 2)) (.op .mul (.op .pow (.c (.int 10)) (.c (.int 60))) (.op .pow (.c (.int 10)) (.c (.int 60))))),
      .ret (.op .mod (.op .ix (.v 0) (.v 3)) (.v 2))] [],
    .asg (.nm 4) (.op .mod (.op .add (.op .add (.op .mul (.op .ix (.v 0) (.op .mod (.v 3) (.bi .len [(.v 0)]))) (.c (.int 1103515245))) (.op .mul (.c (.int 7919)) (.v 3))) (.c (.int 12345))) (.c (.int 2147483647))),
    .ret (.op .mod (.op .mod (.op .mod (.op .pow (.v 4) (.c (.int 5))) (.c (.int 2147483647))) (.c (.int 999983))) (.v 2))]
def fn_law_draw : Fn := ⟨3, 6, b_law_draw⟩
def b_law_pick : List Sm :=
  [.ret (.op .ix (.v 2) (.call F_law_draw [(.v 0), (.v 1), (.bi .len [(.v 2)])]))]
def fn_law_pick : Fn := ⟨3, 3, b_law_pick⟩
def b_law_groups : List Sm :=
  [.par [2, 3] [(.lst 1 [(.c (.str [110, 111, 110, 101])), (.c (.str [110, 117, 109, 98, 101, 114])), (.c (.str [116, 101, 120, 116]))]), (.lst 1 [])],
    .whl (.op .ne (.v 2) (.lst 0 [])) [.asg (.nm 4) (.lst 1 [(.meth .popAt (.v 2) [(.call F_law_draw [(.v 0), (.v 1), (.bi .len [(.v 2)])])])]),
      .iff (.and [(.op .ne (.v 2) (.lst 0 [])), (.op .eq (.call F_law_draw [(.v 0), (.v 1), (.c (.int 3))]) (.c (.int 0)))]) [.ex (.meth .append (.v 4) [(.meth .popAt (.v 2) [(.call F_law_draw [(.v 0), (.v 1), (.bi .len [(.v 2)])])])])] [],
      .ex (.meth .append (.v 3) [(.bi .tuple [(.sorted (.v 4))])])],
    .ret (.bi .tuple [(.v 3)])]
def fn_law_groups : Fn := ⟨2, 5, b_law_groups⟩
def b_law_step : List Sm :=
  [.asg (.nm 3) (.call F_law_pick [(.v 0), (.v 1), (.lst 0 [(.c (.str [114, 97, 110, 107])), (.c (.str [114, 97, 110, 107])), (.c (.str [110, 117, 109, 98, 101, 114])), (.c (.str [116, 101, 120, 116])), (.c (.str [108, 101, 110, 103, 116, 104])), (.c (.str [115, 112, 101, 108, 108, 105, 110, 103]))])]),
    .asg (.nm 4) (.ife (.op .eq (.v 3) (.c (.str [114, 97, 110, 107]))) (.call F_law_groups [(.v 0), (.v 1)]) (.call F_law_pick [(.v 0), (.v 1), (.lst 0 [(.c (.str [97, 115, 99])), (.c (.str [100, 101, 115, 99]))])])),
    .ret (.tup [(.v 3), (.call F_law_draw [(.v 0), (.v 1), (.v 2)]), (.v 4)])]
def fn_law_step : Fn := ⟨3, 5, b_law_step⟩
def b_law_spec : List Sm :=
  [.ret (.tup [(.v 2), (.bi .tuple [(.comp 0 (.nm 4) (.range1 (.call F_law_draw [(.v 0), (.v 1), (.op .add (.v 3) (.c (.int 1)))])) none (.call F_law_step [(.v 0), (.v 1), (.v 2)]))])])]
def fn_law_spec : Fn := ⟨4, 5, b_law_spec⟩
def b_law_order : List Sm :=
  [.asg (.nm 3) (.lst 1 []),
    .for_ (.nm 4) (.range1 (.v 2)) [.asg (.nm 5) (.call F_law_pick [(.v 0), (.v 1), (.lst 0 [(.tup [(.c (.str [110, 111, 110, 101])), (.c (.str [110, 117, 109, 98, 101, 114])), (.c (.str [116, 101, 120, 116]))]), (.tup [(.c (.str [116, 101, 120, 116])), (.c (.str [110, 111, 110, 101])), (.c (.str [110, 117, 109, 98, 101, 114]))])])]),
      .asg (.nm 6) (.tup [(.c (.str [114, 97, 110, 107])), (.v 4), (.bi .tuple [(.comp 0 (.nm 10) (.seq (.v 5)) none (.tup [(.v 10)]))])]),
      .asg (.nm 7) (.comp 1 (.nm 9) (.seq (.tup [(.c (.str [110, 117, 109, 98, 101, 114])), (.c (.str [116, 101, 120, 116])), (.c (.str [108, 101, 110, 103, 116, 104]))])) none (.tup [(.v 9), (.v 4), (.call F_law_pick [(.v 0), (.v 1), (.lst 0 [(.c (.str [97, 115, 99])), (.c (.str [100, 101, 115, 99]))])])])),
      .asg (.nm 8) (.meth .popAt (.v 7) [(.call F_law_draw [(.v 0), (.v 1), (.c (.int 3))])]),
      .ex (.meth .extend (.v 3) [(.lst 0 [(.v 6), (.v 8)])]),
      .iff (.op .eq (.call F_law_draw [(.v 0), (.v 1), (.c (.int 2))]) (.c (.int 0))) [.ex (.meth .append (.v 3) [(.meth .popAt (.v 7) [(.call F_law_draw [(.v 0), (.v 1), (.c (.int 2))])])])] []],
    .ret (.tup [(.v 2), (.bi .tuple [(.v 3)])])]
def fn_law_order : Fn := ⟨3, 11, b_law_order⟩
def b_law_value : List Sm :=
  [.asg (.nm 2) (.lst 0 [(.c (.int 0)), (.c (.int 1)), (.c (.int 2)), (.c (.int 3)), (.c (.int 9)), (.c (.int 10)), (.c (.int 11)), (.c (.int 12)), (.c (.int 20)), (.c (.int 30)), (.c (.int 100)), (.c (.int 102)), (.op .add (.c (.int 9)) (.call F_law_draw [(.v 0), (.v 1), (.c (.int 300))]))]),
    .asg (.nm 3) (.lst 0 [(.c (.str [97])), (.c (.str [98])), (.c (.str [99])), (.c (.str [122])), (.c (.str [97, 97])), (.c (.str [97, 98])), (.c (.str [98])), (.c (.str [98, 98])), (.c (.str [98, 97])), (.c (.str [99, 99])), (.c (.str [97, 97, 97])), (.c (.str [97, 98, 99])), (.c (.str [98, 98, 98])), (.c (.str [122, 122]))]),
    .ret (.call F_law_pick [(.v 0), (.v 1), (.lst 0 [(.c (.non)), (.c (.non)), (.call F_law_pick [(.v 0), (.v 1), (.v 2)]), (.call F_law_pick [(.v 0), (.v 1), (.v 3)])])])]
def fn_law_value : Fn := ⟨2, 4, b_law_value⟩
def b_law_record : List Sm :=
  [.ret (.bi .tuple [(.comp 0 (.nm 3) (.range1 (.v 2)) none (.call F_law_value [(.v 0), (.v 1)]))])]
def fn_law_record : Fn := ⟨3, 4, b_law_record⟩
def b_law_kind : List Sm :=
  [.ret (.ife (.op .is_ (.v 0) (.c (.non))) (.c (.str [110, 111, 110, 101])) (.ife (.un .isInt (.v 0)) (.c (.str [110, 117, 109, 98, 101, 114])) (.c (.str [116, 101, 120, 116]))))]
def fn_law_kind : Fn := ⟨1, 1, b_law_kind⟩
def b_law_sign : List Sm :=
  [.ret (.ife (.op .eq (.v 0) (.v 1)) (.c (.int 0)) (.ife (.op .lt (.v 0) (.v 1)) (.un .neg (.c (.int 1))) (.c (.int 1))))]
def fn_law_sign : Fn := ⟨2, 2, b_law_sign⟩
def b_law_result : List Sm :=
  [.asg (.tup [(.nm 3), (.nm 4), (.nm 5)]) (.v 0),
    .asg (.nm 6) (.tup [(.call F_law_kind [(.v 1)]), (.call F_law_kind [(.v 2)])]),
    .iff (.op .eq (.v 3) (.c (.str [114, 97, 110, 107]))) [.asg (.nm 8) (.comp 0 (.nm 9) (.seq (.v 6)) none (.un .indexTrue (.comp 0 (.nm 10) (.seq (.v 5)) none (.op .in_ (.v 9) (.v 10))))),
      .ret (.call F_law_sign [(.op .ix (.v 8) (.c (.int 0))), (.op .ix (.v 8) (.c (.int 1)))])] [],
    .asg (.nm 7) (.c (.int 0)),
    .iff (.and [(.op .eq (.v 6) (.tup [(.c (.str [110, 117, 109, 98, 101, 114])), (.c (.str [110, 117, 109, 98, 101, 114]))])), (.op .eq (.v 3) (.c (.str [110, 117, 109, 98, 101, 114])))]) [.asg (.nm 7) (.call F_law_sign [(.v 1), (.v 2)])] [],
    .iff (.and [(.op .eq (.v 6) (.tup [(.c (.str [116, 101, 120, 116])), (.c (.str [116, 101, 120, 116]))])), (.op .in_ (.v 3) (.tup [(.c (.str [116, 101, 120, 116])), (.c (.str [108, 101, 110, 103, 116, 104]))]))]) [.asg (.nm 7) (.ife (.op .eq (.v 3) (.c (.str [116, 101, 120, 116]))) (.call F_law_sign [(.v 1), (.v 2)]) (.call F_law_sign [(.bi .len [(.v 1)]), (.bi .len [(.v 2)])]))] [],
    .iff (.and [(.op .notin (.c (.str [110, 111, 110, 101])) (.v 6)), (.op .eq (.v 3) (.c (.str [115, 112, 101, 108, 108, 105, 110, 103])))]) [.asg (.nm 7) (.call F_law_sign [(.bi .str [(.v 1)]), (.bi .str [(.v 2)])])] [],
    .ret (.ife (.op .eq (.v 5) (.c (.str [97, 115, 99]))) (.v 7) (.un .neg (.v 7)))]
def fn_law_result : Fn := ⟨3, 11, b_law_result⟩
def b_law_compare : List Sm :=
  [.for_ (.nm 3) (.seq (.v 0)) [.asg (.nm 4) (.call F_law_result [(.v 3), (.op .ix (.v 1) (.op .ix (.v 3) (.c (.int 1)))), (.op .ix (.v 2) (.op .ix (.v 3) (.c (.int 1))))]),
      .iff (.op .ne (.v 4) (.c (.int 0))) [.ret (.v 4)] []],
    .ret (.c (.int 0))]
def fn_law_compare : Fn := ⟨3, 5, b_law_compare⟩
def b_law_size : List Sm :=
  [.asg (.nm 1) (.c (.int 0)),
    .for_ (.nm 2) (.seq (.v 0)) [.aug 1 .add (.bi .sum [(.comp 0 (.nm 3) (.seq (.v 2)) (some (.op .isnot (.v 3) (.c (.non)))) (.bi .len [(.bi .str [(.v 3)])]))])],
    .ret (.v 1)]
def fn_law_size : Fn := ⟨1, 4, b_law_size⟩
def b_law_k01 : List Sm :=
  [.asg (.nm 1) (.lst 1 [(.c (.int 0)), (.c (.int 0))]),
    .asg (.nm 2) (.op .add (.c (.int 1)) (.call F_law_draw [(.v 0), (.v 1), (.c (.int 2))])),
    .par [3, 4] [(.call F_law_spec [(.v 0), (.v 1), (.v 2), (.c (.int 6))]), (.call F_law_spec [(.v 0), (.v 1), (.v 2), (.c (.int 3))])],
    .iff (.or [(.op .isnot (.call F_is_spec [(.v 3)]) (.c (.bl true))), (.op .isnot (.call F_is_spec [(.v 4)]) (.c (.bl true)))]) [.ret (.c (.bl false))] [],
    .asg (.nm 5) (.call F_reversed_spec [(.v 3)]),
    .for_ (.nm 6) (.range1 (.c (.int 8))) [.par [7, 8] [(.call F_law_record [(.v 0), (.v 1), (.v 2)]), (.call F_law_record [(.v 0), (.v 1), (.v 2)])],
      .asg (.nm 9) (.call F_law_compare [(.op .ix (.v 3) (.c (.int 1))), (.v 7), (.v 8)]),
      .iff (.or [(.op .ne (.call F_compare [(.v 3), (.v 7), (.v 8)]) (.v 9)), (.op .ne (.call F_compare [(.v 3), (.v 8), (.v 7)]) (.un .neg (.v 9)))]) [.ret (.c (.bl false))] [],
      .iff (.op .ne (.call F_compare [(.v 5), (.v 7), (.v 8)]) (.un .neg (.v 9))) [.ret (.c (.bl false))] [],
      .iff (.op .ne (.call F_compare [(.v 3), (.v 7), (.v 7)]) (.c (.int 0))) [.ret (.c (.bl false))] [],
      .iff (.op .lt (.bi .len [(.op .ix (.v 3) (.c (.int 1)))]) (.c (.int 4))) [.asg (.nm 10) (.call F_compare [(.call F_combined [(.v 3), (.v 4)]), (.v 7), (.v 8)]),
        .iff (.op .ne (.v 10) (.ife (.op .ne (.v 9) (.c (.int 0))) (.v 9) (.call F_law_compare [(.op .ix (.v 4) (.c (.int 1))), (.v 7), (.v 8)]))) [.ret (.c (.bl false))] []] []],
    .ret (.and [(.op .is_ (.call F_is_spec [(.v 5)]) (.c (.bl true))), (.op .eq (.call F_reversed_spec [(.v 5)]) (.v 3))])]
def fn_law_k01 : Fn := ⟨1, 11, b_law_k01⟩
def b_law_ask : List Sm :=
  [.tryW [X_InvalidSpec, X_InvalidRecord, X_InvalidList, X_Incomparable, X_TooLong, X_Inconsistent, X_Unsorted, X_NotFound, X_InvalidFormat] [.iff (.op .eq (.v 0) (.c (.int 0))) [.ret (.call F_compare [(.v 1), (.v 2), (.v 3)])] [],
      .ret (.ife (.op .eq (.v 0) (.c (.int 1))) (.call F_combined [(.v 1), (.v 2)]) (.call F_reversed_spec [(.v 1)]))]]
def fn_law_ask : Fn := ⟨4, 5, b_law_ask⟩
def b_law_invalid : List Sm :=
  [.asg (.tup [(.nm 0), (.nm 1)]) (.tup [(.tup [(.c (.str [110, 117, 109, 98, 101, 114])), (.c (.int 0)), (.c (.str [97, 115, 99]))]), (.tup [(.tup [(.c (.str [110, 111, 110, 101]))]), (.tup [(.c (.str [110, 117, 109, 98, 101, 114]))]), (.tup [(.c (.str [116, 101, 120, 116]))])])]),
    .asg (.nm 2) (.lst 1 [(.c (.non)), (.tup []), (.tup [(.c (.int 1))]), (.tup [(.c (.int 0)), (.tup [])]), (.tup [(.c (.int 3)), (.tup [])]), (.tup [(.c (.bl true)), (.tup [])]), (.tup [(.c (.int 1)), (.lst 0 [(.v 0)])]), (.lst 0 [(.c (.int 1)), (.tup [(.v 0)])])]),
    .ex (.meth .extend (.v 2) [(.lst 0 [(.tup [(.c (.int 1)), (.op .mul (.tup [(.v 0)]) (.c (.int 7)))]), (.tup [(.c (.int 1)), (.tup [(.c (.non))])]), (.tup [(.c (.int 1)), (.tup [(.v 0)]), (.c (.int 0))]), (.tup [(.c (.str [49])), (.tup [])])])]),
    .asg (.nm 3) (.lst 1 [(.tup [(.c (.str [110, 117, 109, 98, 101, 114])), (.c (.int 1)), (.c (.str [97, 115, 99]))]), (.tup [(.c (.str [110, 117, 109, 98, 101, 114])), (.un .neg (.c (.int 1))), (.c (.str [97, 115, 99]))]), (.tup [(.c (.str [110, 117, 109, 98, 101, 114])), (.c (.bl true)), (.c (.str [97, 115, 99]))]), (.tup [(.c (.str [110, 117, 109, 98, 101, 114])), (.c (.int 0))])]),
    .ex (.meth .extend (.v 3) [(.lst 0 [(.lst 0 [(.c (.str [110, 117, 109, 98, 101, 114])), (.c (.int 0)), (.c (.str [97, 115, 99]))]), (.tup [(.c (.str [115, 105, 122, 101])), (.c (.int 0)), (.c (.str [97, 115, 99]))])])]),
    .for_ (.nm 4) (.seq (.v 3)) [.ex (.meth .append (.v 2) [(.tup [(.c (.int 1)), (.tup [(.v 4)])])])],
    .for_ (.nm 5) (.seq (.tup [(.c (.str [117, 112])), (.c (.non)), (.lst 0 [(.c (.str [97, 115, 99]))]), (.tup [(.c (.str [97, 115, 99]))]), (.v 1), (.c (.str [65, 83, 67])), (.c (.str []))])) [.ex (.meth .append (.v 2) [(.tup [(.c (.int 1)), (.tup [(.tup [(.c (.str [110, 117, 109, 98, 101, 114])), (.c (.int 0)), (.v 5)])])])])],
    .asg (.nm 3) (.lst 1 [(.c (.str [97, 115, 99])), (.tup []), (.slice (.v 1) none (some (.c (.int 2)))), (.op .add (.v 1) (.tup [(.tup [])])), (.op .add (.v 1) (.tup [(.tup [(.c (.str [116, 101, 120, 116]))])]))]),
    .ex (.meth .extend (.v 3) [(.lst 0 [(.tup [(.tup [(.c (.str [110, 111, 110, 101])), (.c (.str [116, 101, 120, 116])), (.c (.str [110, 117, 109, 98, 101, 114]))])]), (.tup [(.tup [(.c (.str [110, 117, 109, 98, 101, 114])), (.c (.str [110, 111, 110, 101]))]), (.tup [(.c (.str [116, 101, 120, 116]))])])])]),
    .for_ (.nm 6) (.seq (.v 3)) [.ex (.meth .append (.v 2) [(.tup [(.c (.int 1)), (.tup [(.tup [(.c (.str [114, 97, 110, 107])), (.c (.int 0)), (.v 6)])])])])],
    .asg (.nm 3) (.lst 1 [(.lst 0 [(.tup [(.c (.str [110, 111, 110, 101]))]), (.tup [(.c (.str [110, 117, 109, 98, 101, 114]))]), (.tup [(.c (.str [116, 101, 120, 116]))])]), (.tup [(.lst 0 [(.c (.str [110, 111, 110, 101]))]), (.tup [(.c (.str [110, 117, 109, 98, 101, 114]))]), (.tup [(.c (.str [116, 101, 120, 116]))])])]),
    .ex (.meth .extend (.v 3) [(.lst 0 [(.tup [(.tup [(.c (.str [110, 111, 110, 101])), (.c (.str [110, 111, 110, 101]))]), (.tup [(.c (.str [110, 117, 109, 98, 101, 114]))]), (.tup [(.c (.str [116, 101, 120, 116]))])]), (.op .add (.tup [(.tup [(.c (.str [110, 105, 108]))])]) (.slice (.v 1) (some (.c (.int 1))) none))])]),
    .for_ (.nm 6) (.seq (.v 3)) [.ex (.meth .append (.v 2) [(.tup [(.c (.int 1)), (.tup [(.tup [(.c (.str [114, 97, 110, 107])), (.c (.int 0)), (.v 6)])])])])],
    .ex (.meth .extend (.v 2) [(.lst 0 [(.tup [(.c (.int 1)), (.tup [(.tup [(.c (.str [114, 97, 110, 107])), (.c (.int 0)), (.op .add (.tup [(.tup [(.c (.non))])]) (.slice (.v 1) (some (.c (.int 1))) none))])])]), (.tup [(.c (.int 1)), (.tup [(.tup [(.c (.non)), (.c (.int 0)), (.c (.str [97, 115, 99]))])])])])]),
    .ret (.op .add (.v 2) (.lst 0 [(.tup [(.c (.int 1)), (.tup [(.tup [(.c (.str [110, 117, 109, 98, 101, 114])), (.c (.non)), (.c (.str [97, 115, 99]))])])])]))]
def fn_law_invalid : Fn := ⟨0, 7, b_law_invalid⟩
def b_law_k02 : List Sm :=
  [.asg (.nm 1) (.lst 1 [(.c (.int 0)), (.c (.int 0))]),
    .asg (.nm 2) (.op .add (.c (.int 1)) (.call F_law_draw [(.v 0), (.v 1), (.c (.int 2))])),
    .par [3, 4] [(.call F_law_spec [(.v 0), (.v 1), (.v 2), (.c (.int 6))]), (.call F_law_record [(.v 0), (.v 1), (.v 2)])],
    .for_ (.nm 5) (.seq (.call F_law_invalid [])) [.iff (.or [(.op .isnot (.call F_is_spec [(.v 5)]) (.c (.bl false))), (.op .ne (.call F_law_ask [(.c (.int 0)), (.v 5), (.c (.non)), (.c (.non))]) (.tup [(.c (.str [114, 97, 105, 115, 101, 100])), (.c (.int 0))]))]) [.ret (.c (.bl false))] [],
      .iff (.op .ne (.call F_law_ask [(.c (.int 2)), (.v 5), (.c (.non)), (.c (.non))]) (.tup [(.c (.str [114, 97, 105, 115, 101, 100])), (.c (.int 0))])) [.ret (.c (.bl false))] [],
      .iff (.or [(.op .ne (.call F_law_ask [(.c (.int 1)), (.v 5), (.c (.non)), (.c (.non))]) (.tup [(.c (.str [114, 97, 105, 115, 101, 100])), (.c (.int 0))])), (.op .ne (.call F_law_ask [(.c (.int 1)), (.v 3), (.v 5), (.c (.non))]) (.tup [(.c (.str [114, 97, 105, 115, 101, 100])), (.c (.int 0))]))]) [.ret (.c (.bl false))] []],
    .asg (.nm 6) (.tup [(.op .sub (.c (.int 3)) (.v 2)), (.tup [])]),
    .iff (.or [(.op .ne (.call F_law_ask [(.c (.int 1)), (.v 3), (.v 6), (.c (.non))]) (.tup [(.c (.str [114, 97, 105, 115, 101, 100])), (.c (.int 3))])), (.op .ne (.call F_law_ask [(.c (.int 1)), (.v 6), (.v 3), (.c (.non))]) (.tup [(.c (.str [114, 97, 105, 115, 101, 100])), (.c (.int 3))]))]) [.ret (.c (.bl false))] [],
    .asg (.nm 7) (.tup [(.v 2), (.op .mul (.tup [(.tup [(.c (.str [110, 117, 109, 98, 101, 114])), (.c (.int 0)), (.c (.str [97, 115, 99]))])]) (.op .sub (.c (.int 7)) (.bi .len [(.op .ix (.v 3) (.c (.int 1)))])))]),
    .iff (.and [(.op .lt (.bi .len [(.op .ix (.v 7) (.c (.int 1)))]) (.c (.int 7))), (.op .ne (.call F_law_ask [(.c (.int 1)), (.v 3), (.v 7), (.c (.non))]) (.tup [(.c (.str [114, 97, 105, 115, 101, 100])), (.c (.int 4))]))]) [.ret (.c (.bl false))] [],
    .iff (.op .ne (.bi .len [(.op .ix (.call F_law_ask [(.c (.int 1)), (.v 3), (.tup [(.v 2), (.slice (.op .ix (.v 7) (.c (.int 1))) (some (.c (.int 1))) none)]), (.c (.non))]) (.c (.int 1)))]) (.c (.int 6))) [.ret (.c (.bl false))] [],
    .for_ (.nm 8) (.seq (.tup [(.un .neg (.c (.int 1))), (.c (.int 1000000000)), (.c (.bl true)), (.c (.str [])), (.c (.str [65])), (.op .mul (.c (.str [97])) (.c (.int 13))), (.c (.str [97, 49])), (.lst 0 [(.c (.int 1))]), (.tup [(.c (.int 1))]), (.tup [])])) [.asg (.nm 5) (.op .add (.tup [(.v 8)]) (.slice (.v 4) (some (.c (.int 1))) none)),
      .iff (.op .ne (.call F_law_ask [(.c (.int 0)), (.v 3), (.v 5), (.c (.non))]) (.tup [(.c (.str [114, 97, 105, 115, 101, 100])), (.c (.int 1))])) [.ret (.c (.bl false))] [],
      .iff (.op .ne (.call F_law_ask [(.c (.int 0)), (.v 3), (.v 4), (.v 5)]) (.tup [(.c (.str [114, 97, 105, 115, 101, 100])), (.c (.int 1))])) [.ret (.c (.bl false))] []],
    .for_ (.nm 5) (.seq (.tup [(.c (.non)), (.lst 0 [(.v 4)]), (.listof 0 (.v 4)), (.op .add (.v 4) (.tup [(.c (.non))])), (.slice (.v 4) (some (.c (.int 1))) none), (.c (.int 5)), (.c (.str [97]))])) [.iff (.op .ne (.call F_law_ask [(.c (.int 0)), (.v 3), (.v 5), (.v 4)]) (.tup [(.c (.str [114, 97, 105, 115, 101, 100])), (.c (.int 1))])) [.ret (.c (.bl false))] [],
      .iff (.op .ne (.call F_law_ask [(.c (.int 0)), (.v 3), (.v 4), (.v 5)]) (.tup [(.c (.str [114, 97, 105, 115, 101, 100])), (.c (.int 1))])) [.ret (.c (.bl false))] []],
    .asg (.nm 9) (.op .add (.tup [(.c (.int 999999999))]) (.op .mul (.tup [(.c (.str [97, 98, 99, 100, 101, 102, 103, 104, 105, 106, 107, 108]))]) (.op .sub (.v 2) (.c (.int 1))))),
    .iff (.op .ne (.call F_law_ask [(.c (.int 0)), (.v 3), (.v 9), (.v 9)]) (.c (.int 0))) [.ret (.c (.bl false))] [],
    .ret (.op .is_ (.call F_is_spec [(.tup [(.c (.int 2)), (.op .mul (.tup [(.tup [(.c (.str [114, 97, 110, 107])), (.c (.int 1)), (.tup [(.tup [(.c (.str [110, 111, 110, 101])), (.c (.str [110, 117, 109, 98, 101, 114])), (.c (.str [116, 101, 120, 116]))])])])]) (.c (.int 6)))])]) (.c (.bl true)))]
def fn_law_k02 : Fn := ⟨1, 10, b_law_k02⟩
def b_size_of : List Sm :=
  [.ret (.ife (.op .is_ (.v 0) (.c (.non))) (.c (.int 0)) (.bi .len [(.call F_spelling_of [(.v 0)])]))]
def fn_size_of : Fn := ⟨1, 1, b_size_of⟩
def b_field_steps : List Sm :=
  [.ret (.comp 0 (.nm 2) (.seq (.v 0)) (some (.op .eq (.op .ix (.v 2) (.c (.int 1))) (.v 1))) (.v 2))]
def fn_field_steps : Fn := ⟨2, 3, b_field_steps⟩
def b_triple_profiles : List Sm :=
  [.par [2, 3, 4] [(.call F_field_steps [(.v 0), (.v 1)]), .dnew, .dnew],
    .for_ (.nm 5) (.seq (.g 8 c_VALUES)) [.for_ (.nm 8) (.seq (.g 8 c_VALUES)) [.set (.v 4) (.tup [(.v 5), (.v 8)]) (.bi .tuple [(.comp 0 (.nm 14) (.seq (.v 2)) none (.call F_step_result [(.v 14), (.v 5), (.v 8)]))])]],
    .asg (.nm 6) (.dcomp (.nm 10) (.seq (.g 8 c_VALUES)) (.v 10) (.call F_size_of [(.v 10)])),
    .for_ (.nm 7) (.seq (.g 8 c_VALUES)) [.for_ (.nm 9) (.seq (.g 8 c_VALUES)) [.for_ (.nm 11) (.seq (.g 8 c_VALUES)) [.asg (.nm 12) (.tup [(.op .ix (.v 4) (.tup [(.v 7), (.v 9)])), (.op .ix (.v 4) (.tup [(.v 9), (.v 11)])), (.op .ix (.v 4) (.tup [(.v 11), (.v 7)]))]),
          .asg (.nm 13) (.op .add (.op .add (.op .ix (.v 6) (.v 7)) (.op .ix (.v 6) (.v 9))) (.op .ix (.v 6) (.v 11))),
          .iff (.or [(.op .notin (.v 12) (.v 3)), (.op .lt (.v 13) (.op .ix (.op .ix (.v 3) (.v 12)) (.c (.int 0))))]) [.set (.v 3) (.v 12) (.tup [(.v 13), (.tup [(.v 7), (.v 9), (.v 11)])])] []]]],
    .retF 3]
def fn_triple_profiles : Fn := ⟨2, 15, b_triple_profiles⟩
def b_results : List Sm :=
  [.asg (.nm 2) (.rep 1 (.lst 0 [(.c (.int 0))]) (.bi .len [(.v 1)])),
    .for_ (.nm 3) (.seq (.v 0)) [.asg (.nm 4) (.op .ix (.v 3) (.c (.int 1))),
      .asg (.nm 5) (.op .ix (.op .ix (.v 1) (.v 4)) (.op .ix (.v 2) (.v 4))),
      .augix (.v 2) (.v 4) .add (.c (.int 1)),
      .iff (.op .ne (.v 5) (.c (.int 0))) [.ret (.v 5)] []],
    .ret (.c (.int 0))]
def fn_results : Fn := ⟨2, 6, b_results⟩
def b_combinations : List Sm :=
  [.iff (.op .eq (.bi .len [(.v 0)]) (.c (.int 1))) [.asg (.nm 1) (.comp 1 (.tup [(.nm 2), (.tup [(.nm 3), (.nm 4)])]) (.items (.op .ix (.v 0) (.c (.int 0)))) none (.tup [(.v 3), (.tup [(.v 2)]), (.tup [(.v 4)])]))] [.asg (.nm 1) (.lst 1 []),
      .for_ (.tup [(.nm 2), (.tup [(.nm 3), (.nm 4)])]) (.items (.op .ix (.v 0) (.c (.int 0)))) [.for_ (.tup [(.nm 5), (.tup [(.nm 6), (.nm 7)])]) (.items (.op .ix (.v 0) (.c (.int 1)))) [.ex (.meth .append (.v 1) [(.tup [(.op .add (.v 3) (.v 6)), (.tup [(.v 2), (.v 5)]), (.tup [(.v 4), (.v 7)])])])]]],
    .ret (.sortedK F_first_part (.v 1))]
def fn_combinations : Fn := ⟨1, 8, b_combinations⟩
def b_first_part : List Sm :=
  [.ret (.op .ix (.v 0) (.c (.int 0)))]
def fn_first_part : Fn := ⟨1, 1, b_first_part⟩
def b_as_records : List Sm :=
  [.asg (.nm 1) (.lst 1 []),
    .for_ (.nm 2) (.range1 (.bi .len [(.op .ix (.v 0) (.c (.int 0)))])) [.ex (.meth .append (.v 1) [(.bi .tuple [(.comp 0 (.nm 3) (.seq (.v 0)) none (.op .ix (.v 3) (.v 2)))])])],
    .ret (.bi .tuple [(.v 1)])]
def fn_as_records : Fn := ⟨1, 4, b_as_records⟩
def b_violation_in : List Sm :=
  [.for_ (.tup [(.nm 2), (.nm 3), (.nm 4)]) (.seq (.call F_combinations [(.v 1)])) [.asg (.nm 5) (.comp 0 (.nm 6) (.range1 (.c (.int 3))) none (.call F_results [(.v 0), (.comp 0 (.nm 7) (.seq (.v 3)) none (.op .ix (.v 7) (.v 6)))])),
      .iff (.and [(.op .le (.op .ix (.v 5) (.c (.int 0))) (.c (.int 0))), (.op .le (.op .ix (.v 5) (.c (.int 1))) (.c (.int 0))), (.op .lt (.op .ix (.v 5) (.c (.int 2))) (.c (.int 0)))]) [.ret (.call F_as_records [(.v 4)])] []],
    .ret (.c (.non))]
def fn_violation_in : Fn := ⟨2, 8, b_violation_in⟩
def b_smallest_violation : List Sm :=
  [.asg (.tup [(.nm 1), (.nm 2)]) (.v 0),
    .ret (.call F_violation_in [(.v 2), (.comp 0 (.nm 3) (.range1 (.v 1)) none (.call F_triple_profiles [(.v 2), (.v 3)]))])]
def fn_smallest_violation : Fn := ⟨1, 4, b_smallest_violation⟩
def b_violation : List Sm :=
  [.ex (.call F_need_spec [(.v 0)]),
    .ret (.call F_smallest_violation [(.v 0)])]
def fn_violation : Fn := ⟨1, 1, b_violation⟩
def b_is_consistent : List Sm :=
  [.ex (.call F_need_spec [(.v 0)]),
    .ret (.op .is_ (.call F_smallest_violation [(.v 0)]) (.c (.non)))]
def fn_is_consistent : Fn := ⟨1, 1, b_is_consistent⟩
def b_law_values : List Sm :=
  [.ret (.lst 0 [(.c (.non)), (.c (.int 0)), (.c (.int 1)), (.c (.int 2)), (.c (.int 3)), (.c (.int 9)), (.c (.int 10)), (.c (.int 11)), (.c (.int 20)), (.c (.int 30)), (.c (.str [97])), (.c (.str [98])), (.c (.str [99])), (.c (.str [97, 97])), (.c (.str [97, 98])), (.c (.str [98, 98])), (.c (.str [98, 99])), (.c (.str [99, 99]))])]
def fn_law_values : Fn := ⟨0, 0, b_law_values⟩
def b_law_known : List Sm :=
  [.asg (.nm 2) .dnew,
    .for_ (.nm 3) (.seq (.v 1)) [.for_ (.nm 4) (.seq (.v 1)) [.set (.v 2) (.tup [(.v 3), (.v 4)]) (.call F_law_compare [(.v 0), (.tup [(.v 3)]), (.tup [(.v 4)])])]],
    .retF 2]
def fn_law_known : Fn := ⟨2, 5, b_law_known⟩
def b_law_k03 : List Sm :=
  [.asg (.nm 1) (.lst 1 [(.c (.int 0)), (.c (.int 0))]),
    .asg (.nm 2) (.call F_law_spec [(.v 0), (.v 1), (.c (.int 1)), (.c (.int 6))]),
    .iff (.op .eq (.call F_law_draw [(.v 0), (.v 1), (.c (.int 3))]) (.c (.int 0))) [.asg (.nm 2) (.call F_law_order [(.v 0), (.v 1), (.c (.int 1))]),
      .asg (.nm 2) (.tup [(.c (.int 1)), (.op .add (.op .add (.slice (.op .ix (.v 2) (.c (.int 1))) none (some (.call F_law_draw [(.v 0), (.v 1), (.c (.int 3))]))) (.tup [(.call F_law_step [(.v 0), (.v 1), (.c (.int 1))])])) (.slice (.op .ix (.v 2) (.c (.int 1))) (some (.c (.int 2))) none))])] [],
    .par [3, 4] [(.call F_violation [(.v 2)]), (.op .ix (.v 2) (.c (.int 1)))],
    .iff (.op .ne (.call F_is_consistent [(.v 2)]) (.op .is_ (.v 3) (.c (.non)))) [.ret (.c (.bl false))] [],
    .asg (.nm 5) (.call F_law_values []),
    .asg (.tup [(.nm 6), (.nm 7)]) (.tup [(.call F_law_known [(.v 4), (.v 5)]), (.c (.non))]),
    .for_ (.nm 8) (.seq (.v 5)) [.for_ (.nm 10) (.seq (.comp 0 (.nm 15) (.seq (.v 5)) (some (.op .le (.op .ix (.v 6) (.tup [(.v 8), (.v 15)])) (.c (.int 0)))) (.v 15))) [.for_ (.nm 14) (.seq (.comp 0 (.nm 15) (.seq (.v 5)) (some (.and [(.op .le (.op .ix (.v 6) (.tup [(.v 10), (.v 15)])) (.c (.int 0))), (.op .lt (.op .ix (.v 6) (.tup [(.v 15), (.v 8)])) (.c (.int 0)))])) (.v 15))) [.asg (.nm 16) (.call F_law_size [(.lst 0 [(.tup [(.v 8), (.v 10), (.v 14)])])]),
          .asg (.nm 7) (.ife (.or [(.op .is_ (.v 7) (.c (.non))), (.op .lt (.v 16) (.v 7))]) (.v 16) (.v 7))]]],
    .iff (.op .isnot (.v 3) (.c (.non))) [.asg (.tup [(.nm 11), (.nm 12), (.nm 13)]) (.v 3),
      .iff (.or [(.op .gt (.call F_law_compare [(.v 4), (.v 11), (.v 12)]) (.c (.int 0))), (.op .gt (.call F_law_compare [(.v 4), (.v 12), (.v 13)]) (.c (.int 0)))]) [.ret (.c (.bl false))] [],
      .iff (.op .ge (.call F_law_compare [(.v 4), (.v 13), (.v 11)]) (.c (.int 0))) [.ret (.c (.bl false))] [],
      .ret (.and [(.op .isnot (.v 7) (.c (.non))), (.op .eq (.call F_law_size [(.v 3)]) (.v 7))])] [],
    .for_ (.nm 9) (.range1 (.c (.int 20))) [.asg (.tup [(.nm 11), (.nm 12), (.nm 13)]) (.comp 0 (.nm 17) (.range1 (.c (.int 3))) none (.call F_law_record [(.v 0), (.v 1), (.c (.int 1))])),
      .iff (.and [(.op .le (.call F_law_compare [(.v 4), (.v 11), (.v 12)]) (.c (.int 0))), (.op .le (.call F_law_compare [(.v 4), (.v 12), (.v 13)]) (.c (.int 0))), (.op .lt (.call F_law_compare [(.v 4), (.v 13), (.v 11)]) (.c (.int 0)))]) [.ret (.c (.bl false))] []],
    .ret (.op .is_ (.v 7) (.c (.non)))]
def fn_law_k03 : Fn := ⟨1, 18, b_law_k03⟩
def b_law_k04 : List Sm :=
  [.asg (.nm 1) (.lst 1 [(.c (.int 0)), (.c (.int 0))]),
    .asg (.nm 2) (.call F_law_spec [(.v 0), (.v 1), (.c (.int 2)), (.c (.int 6))]),
    .iff (.op .eq (.call F_law_draw [(.v 0), (.v 1), (.c (.int 2))]) (.c (.int 0))) [.asg (.nm 4) (.listof 1 (.op .ix (.call F_law_order [(.v 0), (.v 1), (.c (.int 2))]) (.c (.int 1)))),
      .set (.v 4) (.call F_law_draw [(.v 0), (.v 1), (.bi .len [(.v 4)])]) (.call F_law_step [(.v 0), (.v 1), (.c (.int 2))]),
      .asg (.nm 2) (.tup [(.c (.int 2)), (.bi .tuple [(.v 4)])])] [],
    .asg (.tup [(.nm 3), (.nm 4)]) (.tup [(.call F_violation [(.v 2)]), (.op .ix (.v 2) (.c (.int 1)))]),
    .iff (.op .ne (.call F_is_consistent [(.v 2)]) (.op .is_ (.v 3) (.c (.non)))) [.ret (.c (.bl false))] [],
    .iff (.op .isnot (.v 3) (.c (.non))) [.asg (.tup [(.nm 8), (.nm 13), (.nm 14)]) (.v 3),
      .iff (.or [(.op .gt (.call F_law_compare [(.v 4), (.v 8), (.v 13)]) (.c (.int 0))), (.op .gt (.call F_law_compare [(.v 4), (.v 13), (.v 14)]) (.c (.int 0)))]) [.ret (.c (.bl false))] [],
      .iff (.op .ge (.call F_law_compare [(.v 4), (.v 14), (.v 8)]) (.c (.int 0))) [.ret (.c (.bl false))] []] [],
    .asg (.tup [(.nm 5), (.nm 6)]) (.tup [(.ife (.op .is_ (.v 3) (.c (.non))) (.c (.non)) (.call F_law_size [(.v 3)])), (.call F_law_values [])]),
    .asg (.nm 7) (.comp 0 (.nm 15) (.range1 (.c (.int 14))) none (.tup [(.call F_law_pick [(.v 0), (.v 1), (.v 6)]), (.call F_law_pick [(.v 0), (.v 1), (.v 6)])])),
    .asg (.nm 7) (.op .add (.v 7) (.lst 0 [(.tup [(.c (.non)), (.c (.non))]), (.tup [(.c (.int 0)), (.c (.non))]), (.tup [(.c (.non)), (.c (.str [97]))]), (.tup [(.c (.int 1)), (.c (.str [97]))])])),
    .for_ (.nm 8) (.seq (.v 7)) [.for_ (.nm 13) (.seq (.comp 0 (.nm 11) (.seq (.v 7)) (some (.op .le (.call F_law_compare [(.v 4), (.v 8), (.v 11)]) (.c (.int 0)))) (.v 11))) [.for_ (.nm 14) (.seq (.v 7)) [.iff (.and [(.op .le (.call F_law_compare [(.v 4), (.v 13), (.v 14)]) (.c (.int 0))), (.op .lt (.call F_law_compare [(.v 4), (.v 14), (.v 8)]) (.c (.int 0)))]) [.iff (.or [(.op .is_ (.v 5) (.c (.non))), (.op .lt (.call F_law_size [(.lst 0 [(.v 8), (.v 13), (.v 14)])]) (.v 5))]) [.ret (.c (.bl false))] []] []]]],
    .asg (.nm 9) (.tup [(.c (.int 1)), (.bi .tuple [(.comp 0 (.nm 16) (.seq (.v 4)) (some (.op .eq (.op .ix (.v 16) (.c (.int 1))) (.c (.int 0)))) (.tup [(.op .ix (.v 16) (.c (.int 0))), (.c (.int 0)), (.op .ix (.v 16) (.c (.int 2)))]))])]),
    .asg (.nm 10) (.tup [(.c (.int 2)), (.bi .tuple [(.comp 0 (.nm 16) (.seq (.v 4)) (some (.op .eq (.op .ix (.v 16) (.c (.int 1))) (.c (.int 0)))) (.v 16))])]),
    .par [11, 12] [(.call F_violation [(.v 9)]), (.call F_violation [(.v 10)])],
    .ret (.and [(.op .eq (.op .is_ (.v 11) (.c (.non))) (.op .is_ (.v 12) (.c (.non)))), (.or [(.op .is_ (.v 11) (.c (.non))), (.op .eq (.call F_law_size [(.v 11)]) (.call F_law_size [(.v 12)]))])])]
def fn_law_k04 : Fn := ⟨1, 17, b_law_k04⟩
def b_without : List Sm :=
  [.ret (.bi .tuple [(.comp 0 (.tup [(.nm 2), (.nm 3)]) (.enum (.v 0)) (some (.op .notin (.v 2) (.v 1))) (.v 3))])]
def fn_without : Fn := ⟨2, 4, b_without⟩
def b_choices : List Sm :=
  [.iff (.op .eq (.v 1) (.c (.int 0))) [.ret (.lst 0 [(.tup [])])] [],
    .asg (.nm 2) (.lst 1 []),
    .for_ (.nm 3) (.range1 (.v 0)) [.ex (.meth .extend (.v 2) [(.comp 0 (.nm 4) (.seq (.call F_choices [(.v 0), (.op .sub (.v 1) (.c (.int 1)))])) (some (.or [(.op .eq (.v 4) (.tup [])), (.op .gt (.op .ix (.v 4) (.c (.int 0))) (.v 3))])) (.op .add (.tup [(.v 3)]) (.v 4)))])],
    .retF 2]
def fn_choices : Fn := ⟨2, 5, b_choices⟩
def b_projected : List Sm :=
  [.asg (.nm 2) .dnew,
    .for_ (.tup [(.nm 3), (.nm 4)]) (.items (.v 0)) [.asg (.nm 5) (.bi .tuple [(.comp 0 (.nm 6) (.seq (.v 3)) none (.bi .tuple [(.comp 0 (.nm 7) (.seq (.v 1)) none (.op .ix (.v 6) (.v 7)))]))]),
      .iff (.or [(.op .notin (.v 5) (.v 2)), (.op .lt (.op .ix (.v 4) (.c (.int 0))) (.op .ix (.op .ix (.v 2) (.v 5)) (.c (.int 0))))]) [.set (.v 2) (.v 5) (.v 4)] []],
    .retF 2]
def fn_projected : Fn := ⟨2, 8, b_projected⟩
def b_is_repair : List Sm :=
  [.asg (.nm 4) (.lst 1 []),
    .for_ (.nm 5) (.range1 (.v 0)) [.asg (.nm 6) (.comp 0 (.tup [(.nm 8), (.nm 9)]) (.enum (.v 1)) (some (.op .eq (.op .ix (.v 9) (.c (.int 1))) (.v 5))) (.v 8)),
      .asg (.nm 7) (.comp 0 (.tup [(.nm 10), (.nm 8)]) (.enum (.v 6)) (some (.op .notin (.v 8) (.v 3))) (.v 10)),
      .ex (.meth .append (.v 4) [(.call F_projected [(.op .ix (.v 2) (.v 5)), (.v 7)])])],
    .ret (.op .is_ (.call F_violation_in [(.call F_without [(.v 1), (.v 3)]), (.v 4)]) (.c (.non)))]
def fn_is_repair : Fn := ⟨4, 11, b_is_repair⟩
def b_repair : List Sm :=
  [.ex (.call F_need_spec [(.v 0)]),
    .asg (.tup [(.nm 1), (.nm 2)]) (.v 0),
    .asg (.nm 3) (.comp 0 (.nm 6) (.range1 (.v 1)) none (.call F_triple_profiles [(.v 2), (.v 6)])),
    .for_ (.nm 4) (.range1 (.op .add (.bi .len [(.v 2)]) (.c (.int 1)))) [.for_ (.nm 5) (.seq (.call F_choices [(.bi .len [(.v 2)]), (.v 4)])) [.iff (.call F_is_repair [(.v 1), (.v 2), (.v 3), (.v 5)]) [.ret (.v 5)] []]],
    .ret (.tup [])]
def fn_repair : Fn := ⟨1, 7, b_repair⟩
def b_law_k05 : List Sm :=
  [.asg (.nm 1) (.lst 1 [(.c (.int 0)), (.c (.int 0))]),
    .asg (.nm 2) (.call F_law_pick [(.v 0), (.v 1), (.lst 0 [(.c (.int 1)), (.c (.int 1)), (.c (.int 2))])]),
    .asg (.nm 3) (.call F_law_spec [(.v 0), (.v 1), (.v 2), (.ife (.op .eq (.v 2) (.c (.int 1))) (.c (.int 4)) (.c (.int 2)))]),
    .iff (.op .eq (.call F_law_draw [(.v 0), (.v 1), (.c (.int 2))]) (.c (.int 0))) [.asg (.nm 4) (.listof 1 (.op .ix (.call F_law_order [(.v 0), (.v 1), (.c (.int 1))]) (.c (.int 1)))),
      .ex (.meth .insert (.v 4) [(.call F_law_draw [(.v 0), (.v 1), (.op .add (.bi .len [(.v 4)]) (.c (.int 1)))]), (.call F_law_step [(.v 0), (.v 1), (.c (.int 1))])]),
      .asg (.nm 3) (.tup [(.c (.int 1)), (.bi .tuple [(.v 4)])])] [],
    .par [4, 5] [(.op .ix (.v 3) (.c (.int 1))), (.lst 0 [(.tup [])])],
    .for_ (.nm 6) (.range1 (.bi .len [(.v 4)])) [.asg (.nm 5) (.op .add (.v 5) (.comp 0 (.nm 10) (.seq (.v 5)) none (.op .add (.v 10) (.tup [(.v 6)]))))],
    .for_ (.tup [(.nm 7), (.nm 8)]) (.seq (.sorted (.comp 0 (.nm 10) (.seq (.v 5)) none (.tup [(.bi .len [(.v 10)]), (.v 10)])))) [.asg (.nm 9) (.bi .tuple [(.comp 0 (.tup [(.nm 6), (.nm 11)]) (.enum (.v 4)) (some (.op .notin (.v 6) (.v 8))) (.v 11))]),
      .iff (.call F_is_consistent [(.tup [(.op .ix (.v 3) (.c (.int 0))), (.v 9)])]) [.ret (.op .eq (.call F_repair [(.v 3)]) (.v 8))] []],
    .ret (.c (.bl false))]
def fn_law_k05 : Fn := ⟨1, 12, b_law_k05⟩
def b_pair_profiles : List Sm :=
  [.par [2, 3] [(.call F_field_steps [(.v 0), (.v 1)]), .dnew],
    .for_ (.nm 4) (.seq (.g 8 c_VALUES)) [.for_ (.nm 5) (.seq (.g 8 c_VALUES)) [.asg (.nm 6) (.bi .tuple [(.comp 0 (.nm 8) (.seq (.v 2)) none (.call F_step_result [(.v 8), (.v 4), (.v 5)]))]),
        .asg (.nm 7) (.op .add (.call F_size_of [(.v 4)]) (.call F_size_of [(.v 5)])),
        .iff (.or [(.op .notin (.v 6) (.v 3)), (.op .lt (.v 7) (.op .ix (.op .ix (.v 3) (.v 6)) (.c (.int 0))))]) [.set (.v 3) (.v 6) (.tup [(.v 7), (.tup [(.v 4), (.v 5)])])] []]],
    .retF 3]
def fn_pair_profiles : Fn := ⟨2, 9, b_pair_profiles⟩
def b_smallest_pair : List Sm :=
  [.asg (.nm 4) (.op .add (.v 1) (.v 2)),
    .asg (.nm 5) (.comp 0 (.nm 12) (.range1 (.v 0)) none (.call F_pair_profiles [(.v 4), (.v 12)])),
    .for_ (.tup [(.nm 6), (.nm 7), (.nm 8)]) (.seq (.call F_combinations [(.v 5)])) [.asg (.nm 9) (.comp 0 (.nm 12) (.range1 (.v 0)) none (.bi .len [(.comp 0 (.nm 15) (.seq (.v 1)) (some (.op .eq (.op .ix (.v 15) (.c (.int 1))) (.v 12))) (.v 15))])),
      .asg (.nm 10) (.call F_results [(.v 1), (.comp 0 (.tup [(.nm 13), (.nm 14)]) (.zip (.v 7) (.v 9)) none (.slice (.v 13) none (some (.v 14))))]),
      .asg (.nm 11) (.call F_results [(.v 2), (.comp 0 (.tup [(.nm 13), (.nm 14)]) (.zip (.v 7) (.v 9)) none (.slice (.v 13) (some (.v 14)) none))]),
      .iff (.calll 3 [(.v 10), (.v 11)]) [.ret (.call F_as_records [(.v 8)])] []],
    .ret (.c (.non))]
def fn_smallest_pair : Fn := ⟨4, 16, b_smallest_pair⟩
def b_differ : List Sm :=
  [.ret (.op .ne (.v 0) (.v 1))]
def fn_differ : Fn := ⟨2, 2, b_differ⟩
def b_contradicts : List Sm :=
  [.ret (.and [(.op .ne (.v 1) (.c (.int 0))), (.op .ne (.v 0) (.v 1))])]
def fn_contradicts : Fn := ⟨2, 2, b_contradicts⟩
def b_difference : List Sm :=
  [.ex (.call F_need_pair [(.v 0), (.v 1)]),
    .ret (.call F_smallest_pair [(.op .ix (.v 0) (.c (.int 0))), (.op .ix (.v 0) (.c (.int 1))), (.op .ix (.v 1) (.c (.int 1))), (.g 1059 (.fn 59))])]
def fn_difference : Fn := ⟨2, 2, b_difference⟩
def b_not_refined : List Sm :=
  [.ex (.call F_need_pair [(.v 0), (.v 1)]),
    .ret (.call F_smallest_pair [(.op .ix (.v 0) (.c (.int 0))), (.op .ix (.v 0) (.c (.int 1))), (.op .ix (.v 1) (.c (.int 1))), (.g 1060 (.fn 60))])]
def fn_not_refined : Fn := ⟨2, 2, b_not_refined⟩
def b_law_near : List Sm :=
  [.par [3, 4] [(.listof 1 (.op .ix (.v 2) (.c (.int 1)))), (.call F_law_draw [(.v 0), (.v 1), (.c (.int 4))])],
    .iff (.or [(.op .eq (.v 4) (.c (.int 0))), (.op .eq (.v 3) (.lst 0 []))]) [.ret (.call F_law_spec [(.v 0), (.v 1), (.op .ix (.v 2) (.c (.int 0))), (.c (.int 4))])] [],
    .asg (.nm 5) (.call F_law_draw [(.v 0), (.v 1), (.bi .len [(.v 3)])]),
    .iff (.op .eq (.v 4) (.c (.int 1))) [.ex (.meth .popAt (.v 3) [(.v 5)])] [.iff (.op .eq (.v 4) (.c (.int 2))) [.set (.v 3) (.v 5) (.call F_law_step [(.v 0), (.v 1), (.op .ix (.v 2) (.c (.int 0)))])] [.iff (.op .lt (.bi .len [(.v 3)]) (.c (.int 6))) [.ex (.meth .insert (.v 3) [(.v 5), (.op .ix (.v 3) (.call F_law_draw [(.v 0), (.v 1), (.bi .len [(.v 3)])]))])] []]],
    .ret (.tup [(.op .ix (.v 2) (.c (.int 0))), (.bi .tuple [(.v 3)])])]
def fn_law_near : Fn := ⟨3, 6, b_law_near⟩
def b_law_k06 : List Sm :=
  [.asg (.nm 1) (.lst 1 [(.c (.int 0)), (.c (.int 0))]),
    .asg (.nm 2) (.call F_law_pick [(.v 0), (.v 1), (.lst 0 [(.c (.int 1)), (.c (.int 1)), (.c (.int 2))])]),
    .asg (.nm 3) (.call F_law_pick [(.v 0), (.v 1), (.lst 0 [(.call F_law_spec [(.v 0), (.v 1), (.v 2), (.c (.int 5))]), (.call F_law_order [(.v 0), (.v 1), (.v 2)])])]),
    .asg (.nm 4) (.call F_law_near [(.v 0), (.v 1), (.v 3)]),
    .par [5, 6] [(.op .ix (.v 3) (.c (.int 1))), (.op .ix (.v 4) (.c (.int 1)))],
    .asg (.nm 7) (.call F_law_values []),
    .asg (.nm 8) (.comp 0 (.nm 16) (.seq (.v 7)) none (.tup [(.v 16)])),
    .iff (.op .eq (.v 2) (.c (.int 2))) [.asg (.nm 8) (.comp 0 (.nm 12) (.range1 (.c (.int 24))) none (.tup [(.call F_law_pick [(.v 0), (.v 1), (.v 7)]), (.call F_law_pick [(.v 0), (.v 1), (.v 7)])]))] [],
    .for_ (.tup [(.nm 9), (.nm 10)]) (.seq (.tup [(.tup [(.call F_difference [(.v 3), (.v 4)]), (.c (.bl false))]), (.tup [(.call F_not_refined [(.v 3), (.v 4)]), (.c (.bl true))])])) [.asg (.nm 13) (.c (.non)),
      .for_ (.nm 14) (.seq (.v 8)) [.for_ (.nm 15) (.seq (.v 8)) [.asg (.nm 17) (.call F_law_compare [(.v 6), (.v 14), (.v 15)]),
          .iff (.and [(.op .ne (.call F_law_compare [(.v 5), (.v 14), (.v 15)]) (.v 17)), (.or [(.op .ne (.v 17) (.c (.int 0))), (.not (.v 10))])]) [.asg (.nm 18) (.call F_law_size [(.lst 0 [(.v 14), (.v 15)])]),
            .asg (.nm 13) (.ife (.or [(.op .is_ (.v 13) (.c (.non))), (.op .lt (.v 18) (.v 13))]) (.v 18) (.v 13))] []]],
      .iff (.op .is_ (.v 9) (.c (.non))) [.iff (.op .isnot (.v 13) (.c (.non))) [.ret (.c (.bl false))] []] [.asg (.nm 17) (.call F_law_compare [(.v 6), (.op .ix (.v 9) (.c (.int 0))), (.op .ix (.v 9) (.c (.int 1)))]),
        .iff (.or [(.op .eq (.call F_law_compare [(.v 5), (.op .ix (.v 9) (.c (.int 0))), (.op .ix (.v 9) (.c (.int 1)))]) (.v 17)), (.and [(.op .eq (.v 17) (.c (.int 0))), (.v 10)])]) [.ret (.c (.bl false))] [],
        .iff (.or [(.and [(.op .isnot (.v 13) (.c (.non))), (.op .gt (.call F_law_size [(.v 9)]) (.v 13))]), (.and [(.op .eq (.v 2) (.c (.int 1))), (.op .ne (.call F_law_size [(.v 9)]) (.v 13))])]) [.ret (.c (.bl false))] []]],
    .asg (.nm 11) (.op .is_ (.call F_difference [(.v 3), (.v 4)]) (.c (.non))),
    .for_ (.nm 12) (.range1 (.c (.int 12))) [.par [14, 15] [(.call F_law_record [(.v 0), (.v 1), (.v 2)]), (.call F_law_record [(.v 0), (.v 1), (.v 2)])],
      .iff (.and [(.v 11), (.op .ne (.call F_law_compare [(.v 5), (.v 14), (.v 15)]) (.call F_law_compare [(.v 6), (.v 14), (.v 15)]))]) [.ret (.c (.bl false))] []],
    .ret (.and [(.op .is_ (.call F_difference [(.v 3), (.v 3)]) (.c (.non))), (.op .is_ (.call F_not_refined [(.v 3), (.tup [(.v 2), (.tup [])])]) (.c (.non)))])]
def fn_law_k06 : Fn := ⟨1, 19, b_law_k06⟩
def b_redundant : List Sm :=
  [.ex (.call F_need_spec [(.v 0)]),
    .asg (.tup [(.nm 1), (.nm 2)]) (.v 0),
    .ret (.comp 0 (.nm 3) (.range1 (.bi .len [(.v 2)])) (some (.op .is_ (.call F_smallest_pair [(.v 1), (.v 2), (.call F_without [(.v 2), (.tup [(.v 3)])]), (.g 1059 (.fn 59))]) (.c (.non)))) (.v 3))]
def fn_redundant : Fn := ⟨1, 4, b_redundant⟩
def b_law_k07 : List Sm :=
  [.asg (.nm 1) (.lst 1 [(.c (.int 0)), (.c (.int 0))]),
    .asg (.nm 2) (.call F_law_pick [(.v 0), (.v 1), (.lst 0 [(.c (.int 1)), (.c (.int 1)), (.c (.int 2))])]),
    .asg (.nm 3) (.listof 1 (.op .ix (.call F_law_spec [(.v 0), (.v 1), (.v 2), (.c (.int 4))]) (.c (.int 1)))),
    .iff (.and [(.op .ne (.v 3) (.lst 0 [])), (.op .eq (.call F_law_draw [(.v 0), (.v 1), (.c (.int 2))]) (.c (.int 0)))]) [.ex (.meth .append (.v 3) [(.call F_law_pick [(.v 0), (.v 1), (.v 3)])])] [],
    .iff (.and [(.op .lt (.bi .len [(.v 3)]) (.c (.int 6))), (.op .eq (.call F_law_draw [(.v 0), (.v 1), (.c (.int 3))]) (.c (.int 0)))]) [.ex (.meth .append (.v 3) [(.tup [(.c (.str [114, 97, 110, 107])), (.c (.int 0)), (.tup [(.tup [(.c (.str [110, 111, 110, 101])), (.c (.str [110, 117, 109, 98, 101, 114])), (.c (.str [116, 101, 120, 116]))])])])])] [],
    .par [4, 5] [(.tup [(.v 2), (.bi .tuple [(.v 3)])]), (.lst 1 [])],
    .asg (.nm 6) (.call F_redundant [(.v 4)]),
    .for_ (.nm 7) (.range1 (.bi .len [(.v 3)])) [.asg (.nm 8) (.tup [(.v 2), (.bi .tuple [(.op .add (.slice (.v 3) none (some (.v 7))) (.slice (.v 3) (some (.op .add (.v 7) (.c (.int 1)))) none))])]),
      .iff (.op .is_ (.call F_difference [(.v 4), (.v 8)]) (.c (.non))) [.ex (.meth .append (.v 5) [(.v 7)]),
        .iff (.op .ne (.call F_is_consistent [(.v 8)]) (.call F_is_consistent [(.v 4)])) [.ret (.c (.bl false))] [],
        .for_ (.nm 9) (.range1 (.c (.int 6))) [.par [10, 11] [(.call F_law_record [(.v 0), (.v 1), (.v 2)]), (.call F_law_record [(.v 0), (.v 1), (.v 2)])],
          .iff (.op .ne (.call F_law_compare [(.op .ix (.v 4) (.c (.int 1))), (.v 10), (.v 11)]) (.call F_law_compare [(.op .ix (.v 8) (.c (.int 1))), (.v 10), (.v 11)])) [.ret (.c (.bl false))] []]] [.iff (.op .in_ (.v 7) (.v 6)) [.ret (.c (.bl false))] []]],
    .ret (.op .eq (.v 6) (.v 5))]
def fn_law_k07 : Fn := ⟨1, 12, b_law_k07⟩
def b_are_records : List Sm :=
  [.ret (.and [(.un .isList (.v 0)), (.bi .all [(.comp 0 (.nm 2) (.seq (.v 0)) none (.call F_is_record [(.v 2), (.v 1)]))])])]
def fn_are_records : Fn := ⟨2, 3, b_are_records⟩
def b_need_records : List Sm :=
  [.iff (.not (.call F_are_records [(.v 1), (.op .ix (.v 0) (.c (.int 0)))])) [.rse X_InvalidList] []]
def fn_need_records : Fn := ⟨2, 2, b_need_records⟩
def b_need_consistent : List Sm :=
  [.iff (.op .isnot (.call F_smallest_violation [(.v 0)]) (.c (.non))) [.rse X_Inconsistent] []]
def fn_need_consistent : Fn := ⟨1, 1, b_need_consistent⟩
def b_ascends : List Sm :=
  [.ret (.bi .all [(.comp 0 (.tup [(.nm 2), (.nm 3)]) (.zip (.v 1) (.slice (.v 1) (some (.c (.int 1))) none)) none (.op .le (.call F_compared [(.v 0), (.v 2), (.v 3)]) (.c (.int 0))))])]
def fn_ascends : Fn := ⟨2, 4, b_ascends⟩
def b_need_sorted : List Sm :=
  [.iff (.not (.call F_ascends [(.op .ix (.v 0) (.c (.int 1))), (.v 1)])) [.rse X_Unsorted] []]
def fn_need_sorted : Fn := ⟨2, 2, b_need_sorted⟩
def b_merged : List Sm :=
  [.par [3, 4, 5] [(.lst 1 []), (.c (.int 0)), (.c (.int 0))],
    .whl (.and [(.op .lt (.v 4) (.bi .len [(.v 1)])), (.op .lt (.v 5) (.bi .len [(.v 2)]))]) [.iff (.op .le (.call F_compared [(.v 0), (.op .ix (.v 1) (.v 4)), (.op .ix (.v 2) (.v 5))]) (.c (.int 0))) [.ex (.meth .append (.v 3) [(.op .ix (.v 1) (.v 4))]),
        .aug 4 .add (.c (.int 1))] [.ex (.meth .append (.v 3) [(.op .ix (.v 2) (.v 5))]),
        .aug 5 .add (.c (.int 1))]],
    .ret (.op .add (.op .add (.v 3) (.slice (.v 1) (some (.v 4)) none)) (.slice (.v 2) (some (.v 5)) none))]
def fn_merged : Fn := ⟨3, 6, b_merged⟩
def b_sorted_by : List Sm :=
  [.iff (.op .lt (.bi .len [(.v 1)]) (.c (.int 2))) [.ret (.listof 0 (.v 1))] [],
    .asg (.nm 2) (.op .fdiv (.bi .len [(.v 1)]) (.c (.int 2))),
    .ret (.call F_merged [(.v 0), (.call F_sorted_by [(.v 0), (.slice (.v 1) none (some (.v 2)))]), (.call F_sorted_by [(.v 0), (.slice (.v 1) (some (.v 2)) none)])])]
def fn_sorted_by : Fn := ⟨2, 3, b_sorted_by⟩
def b_need_sortable : List Sm :=
  [.ex (.call F_need_spec [(.v 0)]),
    .ex (.call F_need_records [(.v 0), (.v 1)]),
    .ex (.call F_need_consistent [(.v 0)])]
def fn_need_sortable : Fn := ⟨2, 2, b_need_sortable⟩
def b_sort : List Sm :=
  [.ex (.call F_need_sortable [(.v 0), (.v 1)]),
    .ret (.call F_sorted_by [(.op .ix (.v 0) (.c (.int 1))), (.v 1)])]
def fn_sort : Fn := ⟨2, 2, b_sort⟩
def b_is_sorted : List Sm :=
  [.ex (.call F_need_sortable [(.v 0), (.v 1)]),
    .ret (.call F_ascends [(.op .ix (.v 0) (.c (.int 1))), (.v 1)])]
def fn_is_sorted : Fn := ⟨2, 2, b_is_sorted⟩
def b_place_for : List Sm :=
  [.ret (.bi .len [(.comp 0 (.nm 3) (.seq (.v 1)) (some (.op .le (.call F_compared [(.v 0), (.v 3), (.v 2)]) (.c (.int 0)))) (.v 3))])]
def fn_place_for : Fn := ⟨3, 4, b_place_for⟩
def b_insert : List Sm :=
  [.ex (.call F_need_spec [(.v 0)]),
    .ex (.call F_need_records [(.v 0), (.v 1)]),
    .ex (.call F_need_record [(.v 0), (.v 2)]),
    .ex (.call F_need_consistent [(.v 0)]),
    .ex (.call F_need_sorted [(.v 0), (.v 1)]),
    .asg (.nm 3) (.call F_place_for [(.op .ix (.v 0) (.c (.int 1))), (.v 1), (.v 2)]),
    .ret (.op .add (.op .add (.slice (.v 1) none (some (.v 3))) (.lst 0 [(.v 2)])) (.slice (.v 1) (some (.v 3)) none))]
def fn_insert : Fn := ⟨3, 4, b_insert⟩
def b_merge : List Sm :=
  [.ex (.call F_need_spec [(.v 0)]),
    .ex (.call F_need_records [(.v 0), (.v 1)]),
    .ex (.call F_need_records [(.v 0), (.v 2)]),
    .ex (.call F_need_consistent [(.v 0)]),
    .ex (.call F_need_sorted [(.v 0), (.v 1)]),
    .ex (.call F_need_sorted [(.v 0), (.v 2)]),
    .ret (.call F_merged [(.op .ix (.v 0) (.c (.int 1))), (.v 1), (.v 2)])]
def fn_merge : Fn := ⟨3, 3, b_merge⟩
def b_groups : List Sm :=
  [.ex (.call F_need_sortable [(.v 0), (.v 1)]),
    .asg (.nm 2) (.lst 2 []),
    .for_ (.nm 3) (.seq (.call F_sorted_by [(.op .ix (.v 0) (.c (.int 1))), (.v 1)])) [.iff (.and [(.nnil (.v 2)), (.op .eq (.call F_compared [(.op .ix (.v 0) (.c (.int 1))), (.op .ix (.inn (.v 2) (.un .neg (.c (.int 1)))) (.un .neg (.c (.int 1)))), (.v 3)]) (.c (.int 0)))]) [.ex (.meth .append (.inn (.v 2) (.un .neg (.c (.int 1)))) [(.v 3)])] [.ex (.appN (.v 2) (.lst 1 [(.v 3)]))]],
    .retF 2]
def fn_groups : Fn := ⟨2, 4, b_groups⟩
def b_law_sorted : List Sm :=
  [.asg (.nm 2) (.lst 1 []),
    .for_ (.nm 3) (.seq (.v 1)) [.asg (.nm 4) (.bi .len [(.v 2)]),
      .whl (.and [(.op .gt (.v 4) (.c (.int 0))), (.op .lt (.call F_law_compare [(.v 0), (.v 3), (.op .ix (.v 2) (.op .sub (.v 4) (.c (.int 1))))]) (.c (.int 0)))]) [.asg (.nm 4) (.op .sub (.v 4) (.c (.int 1)))],
      .ex (.meth .insert (.v 2) [(.v 4), (.v 3)])],
    .retF 2]
def fn_law_sorted : Fn := ⟨2, 5, b_law_sorted⟩
def b_law_rises : List Sm :=
  [.ret (.bi .all [(.comp 0 (.tup [(.nm 2), (.nm 3)]) (.zip (.v 1) (.slice (.v 1) (some (.c (.int 1))) none)) none (.op .le (.call F_law_compare [(.v 0), (.v 2), (.v 3)]) (.c (.int 0))))])]
def fn_law_rises : Fn := ⟨2, 4, b_law_rises⟩
def b_law_k08 : List Sm :=
  [.asg (.nm 1) (.lst 1 [(.c (.int 0)), (.c (.int 0))]),
    .asg (.nm 2) (.c (.int 1)),
    .asg (.nm 3) (.call F_law_order [(.v 0), (.v 1), (.v 2)]),
    .asg (.nm 4) (.op .ix (.v 3) (.c (.int 1))),
    .asg (.nm 5) (.comp 0 (.nm 13) (.range1 (.call F_law_draw [(.v 0), (.v 1), (.c (.int 15))])) none (.call F_law_record [(.v 0), (.v 1), (.v 2)])),
    .asg (.nm 6) (.call F_law_sorted [(.v 4), (.v 5)]),
    .iff (.or [(.op .ne (.call F_sort [(.v 3), (.v 5)]) (.v 6)), (.op .isnot (.call F_is_sorted [(.v 3), (.v 6)]) (.c (.bl true)))]) [.ret (.c (.bl false))] [],
    .iff (.op .ne (.call F_is_sorted [(.v 3), (.v 5)]) (.call F_law_rises [(.v 4), (.v 5)])) [.ret (.c (.bl false))] [],
    .asg (.nm 7) (.call F_law_draw [(.v 0), (.v 1), (.op .add (.bi .len [(.v 5)]) (.c (.int 1)))]),
    .par [8, 9] [(.call F_law_sorted [(.v 4), (.slice (.v 5) none (some (.v 7)))]), (.call F_law_sorted [(.v 4), (.slice (.v 5) (some (.v 7)) none)])],
    .iff (.or [(.op .ne (.call F_merge [(.v 3), (.v 8), (.v 9)]) (.v 6)), (.op .ne (.call F_merge [(.v 3), (.v 6), (.lst 0 [])]) (.v 6)), (.op .ne (.call F_merge [(.v 3), (.lst 0 []), (.v 6)]) (.v 6))]) [.ret (.c (.bl false))] [],
    .asg (.nm 10) (.call F_law_record [(.v 0), (.v 1), (.v 2)]),
    .iff (.op .ne (.call F_insert [(.v 3), (.v 6), (.v 10)]) (.call F_law_sorted [(.v 4), (.op .add (.v 5) (.lst 0 [(.v 10)]))])) [.ret (.c (.bl false))] [],
    .asg (.nm 11) (.lst 2 []),
    .for_ (.nm 12) (.seq (.v 6)) [.iff (.and [(.nnil (.v 11)), (.op .eq (.call F_law_compare [(.v 4), (.op .ix (.inn (.v 11) (.un .neg (.c (.int 1)))) (.c (.int 0))), (.v 12)]) (.c (.int 0)))]) [.ex (.meth .append (.inn (.v 11) (.un .neg (.c (.int 1)))) [(.v 12)])] [.ex (.appN (.v 11) (.lst 1 [(.v 12)]))]],
    .fz 11,
    .ret (.and [(.op .eq (.call F_groups [(.v 3), (.v 5)]) (.v 11)), (.op .eq (.call F_sort [(.v 3), (.rev (.v 6))]) (.call F_law_sorted [(.v 4), (.rev (.v 6))]))])]
def fn_law_k08 : Fn := ⟨1, 14, b_law_k08⟩
def b_law_ask_v2 : List Sm :=
  [.tryW [X_InvalidSpec, X_InvalidRecord, X_InvalidList, X_Incomparable, X_TooLong, X_Inconsistent, X_Unsorted, X_NotFound, X_InvalidFormat] [.iff (.op .lt (.v 0) (.c (.int 3))) [.ret (.callx (.op .ix (.lst 0 [(.g 1075 (.fn 75)), (.g 1076 (.fn 76)), (.g 1080 (.fn 80))]) (.v 0)) [(.v 1), (.v 2)])] [],
      .iff (.op .lt (.v 0) (.c (.int 5))) [.ret (.callx (.op .ix (.lst 0 [(.g 1078 (.fn 78)), (.g 1079 (.fn 79))]) (.op .sub (.v 0) (.c (.int 3)))) [(.v 1), (.v 2), (.v 3)])] [],
      .iff (.op .lt (.v 0) (.c (.int 7))) [.ret (.callx (.op .ix (.lst 0 [(.g 1061 (.fn 61)), (.g 1062 (.fn 62))]) (.op .sub (.v 0) (.c (.int 5)))) [(.v 1), (.v 2)])] [],
      .ret (.callx (.op .ix (.lst 0 [(.g 1045 (.fn 45)), (.g 1046 (.fn 46)), (.g 1055 (.fn 55)), (.g 1065 (.fn 65))]) (.op .sub (.v 0) (.c (.int 7)))) [(.v 1)])]]
def fn_law_ask_v2 : Fn := ⟨4, 5, b_law_ask_v2⟩
def b_law_k09 : List Sm :=
  [.asg (.nm 1) (.lst 1 [(.c (.int 0)), (.c (.int 0))]),
    .asg (.nm 2) (.c (.int 1)),
    .asg (.tup [(.nm 3), (.nm 4)]) (.tup [(.call F_law_order [(.v 0), (.v 1), (.v 2)]), (.tup [(.v 2), (.tup [(.tup [(.c (.str [110, 117, 109, 98, 101, 114])), (.c (.int 0)), (.c (.str [97, 115, 99]))])])])]),
    .asg (.nm 5) (.call F_law_record [(.v 0), (.v 1), (.v 2)]),
    .for_ (.nm 6) (.seq (.tup [(.c (.non)), (.tup []), (.tup [(.v 2), (.lst 0 [(.tup [(.c (.str [110, 117, 109, 98, 101, 114])), (.c (.int 0)), (.c (.str [97, 115, 99]))])])]), (.tup [(.c (.int 0)), (.tup [])]), (.c (.str [115, 112, 101, 99])), (.op .ix (.v 3) (.c (.int 1))), (.tup [(.v 2)])])) [.iff (.op .ne (.comp 0 (.nm 11) (.range1 (.c (.int 11))) none (.call F_law_ask_v2 [(.v 11), (.v 6), (.c (.non)), (.c (.non))])) (.op .mul (.lst 0 [(.tup [(.c (.str [114, 97, 105, 115, 101, 100])), (.c (.int 0))])]) (.c (.int 11)))) [.ret (.c (.bl false))] [],
      .iff (.op .ne (.comp 0 (.nm 11) (.seq (.tup [(.c (.int 5)), (.c (.int 6))])) none (.call F_law_ask_v2 [(.v 11), (.v 3), (.v 6), (.c (.non))])) (.op .mul (.lst 0 [(.tup [(.c (.str [114, 97, 105, 115, 101, 100])), (.c (.int 0))])]) (.c (.int 2)))) [.ret (.c (.bl false))] []],
    .iff (.op .ne (.comp 0 (.nm 11) (.seq (.tup [(.c (.int 5)), (.c (.int 6))])) none (.call F_law_ask_v2 [(.v 11), (.v 3), (.tup [(.op .sub (.c (.int 3)) (.v 2)), (.tup [])]), (.c (.non))])) (.op .mul (.lst 0 [(.tup [(.c (.str [114, 97, 105, 115, 101, 100])), (.c (.int 3))])]) (.c (.int 2)))) [.ret (.c (.bl false))] [],
    .asg (.nm 7) (.lst 1 [(.c (.non)), (.tup [(.v 5)]), (.lst 0 [(.c (.non))]), (.lst 0 [(.listof 0 (.v 5))]), (.lst 0 [(.v 5), (.slice (.v 5) (some (.c (.int 1))) none)]), (.lst 0 [(.op .add (.v 5) (.tup [(.c (.int 1))]))])]),
    .ex (.meth .extend (.v 7) [(.lst 0 [(.lst 0 [(.op .mul (.tup [(.c (.bl true))]) (.v 2))]), (.lst 0 [(.op .mul (.tup [(.c (.str [65]))]) (.v 2))]), (.c (.str [114, 101, 99, 111, 114, 100, 115])), (.v 5)])]),
    .for_ (.nm 6) (.seq (.v 7)) [.iff (.op .ne (.comp 0 (.nm 11) (.range1 (.c (.int 5))) none (.call F_law_ask_v2 [(.v 11), (.v 4), (.v 6), (.c (.non))])) (.op .mul (.lst 0 [(.tup [(.c (.str [114, 97, 105, 115, 101, 100])), (.c (.int 2))])]) (.c (.int 5)))) [.ret (.c (.bl false))] [],
      .iff (.op .ne (.call F_law_ask_v2 [(.c (.int 4)), (.v 4), (.lst 0 []), (.v 6)]) (.tup [(.c (.str [114, 97, 105, 115, 101, 100])), (.c (.int 2))])) [.ret (.c (.bl false))] []],
    .for_ (.nm 6) (.seq (.tup [(.c (.non)), (.listof 0 (.v 5)), (.op .add (.v 5) (.tup [(.c (.int 1))])), (.op .mul (.tup [(.c (.str []))]) (.v 2)), (.op .mul (.tup [(.un .neg (.c (.int 1)))]) (.v 2))])) [.iff (.op .ne (.call F_law_ask_v2 [(.c (.int 3)), (.v 4), (.lst 0 [(.v 5)]), (.v 6)]) (.tup [(.c (.str [114, 97, 105, 115, 101, 100])), (.c (.int 1))])) [.ret (.c (.bl false))] []],
    .iff (.op .ne (.comp 0 (.nm 11) (.range1 (.c (.int 3))) none (.call F_law_ask_v2 [(.v 11), (.v 4), (.lst 0 [(.v 5)]), (.c (.non))])) (.op .mul (.lst 0 [(.tup [(.c (.str [114, 97, 105, 115, 101, 100])), (.c (.int 5))])]) (.c (.int 3)))) [.ret (.c (.bl false))] [],
    .iff (.or [(.op .ne (.call F_law_ask_v2 [(.c (.int 3)), (.v 4), (.lst 0 []), (.v 5)]) (.tup [(.c (.str [114, 97, 105, 115, 101, 100])), (.c (.int 5))])), (.op .ne (.call F_law_ask_v2 [(.c (.int 4)), (.v 4), (.lst 0 []), (.lst 0 [])]) (.tup [(.c (.str [114, 97, 105, 115, 101, 100])), (.c (.int 5))]))]) [.ret (.c (.bl false))] [],
    .asg (.tup [(.nm 8), (.nm 9)]) (.call F_sort [(.v 3), (.lst 0 [(.op .mul (.tup [(.c (.int 1))]) (.v 2)), (.op .mul (.tup [(.c (.str [97]))]) (.v 2))])]),
    .asg (.nm 10) (.lst 0 [(.v 9), (.v 8)]),
    .iff (.op .ne (.call F_law_ask_v2 [(.c (.int 3)), (.v 3), (.v 10), (.v 5)]) (.tup [(.c (.str [114, 97, 105, 115, 101, 100])), (.c (.int 6))])) [.ret (.c (.bl false))] [],
    .iff (.op .ne (.call F_law_ask_v2 [(.c (.int 4)), (.v 3), (.v 10), (.lst 0 [])]) (.tup [(.c (.str [114, 97, 105, 115, 101, 100])), (.c (.int 6))])) [.ret (.c (.bl false))] [],
    .iff (.op .ne (.call F_law_ask_v2 [(.c (.int 4)), (.v 3), (.lst 0 []), (.v 10)]) (.tup [(.c (.str [114, 97, 105, 115, 101, 100])), (.c (.int 6))])) [.ret (.c (.bl false))] [],
    .iff (.op .isnot (.call F_law_ask_v2 [(.c (.int 1)), (.v 3), (.v 10), (.c (.non))]) (.c (.bl false))) [.ret (.c (.bl false))] [],
    .iff (.op .ne (.comp 0 (.nm 11) (.range1 (.c (.int 3))) none (.call F_law_ask_v2 [(.v 11), (.v 3), (.lst 0 []), (.c (.non))])) (.lst 0 [(.lst 0 []), (.c (.bl true)), (.lst 0 [])])) [.ret (.c (.bl false))] [],
    .ret (.op .eq (.call F_law_ask_v2 [(.c (.int 4)), (.v 3), (.lst 0 []), (.lst 0 [])]) (.lst 0 []))]
def fn_law_k09 : Fn := ⟨1, 12, b_law_k09⟩
def b_SortedListX_initX : List Sm :=
  [.ex (.call F_need_spec [(.v 1)]),
    .ex (.call F_need_consistent [(.v 1)]),
    .setSp (.v 0) (.v 1),
    .setRw 0 (.lst 1 [])]
def fn_SortedListX_initX : Fn := ⟨2, 2, b_SortedListX_initX⟩
def b_SortedList_add : List Sm :=
  [.ex (.call F_need_record [(.fsp (.v 0)), (.v 1)]),
    .asg (.nm 2) (.call F_place_for [(.op .ix (.fsp (.v 0)) (.c (.int 1))), (.frw (.v 0)), (.v 1)]),
    .ex (.meth .insert (.frw (.v 0)) [(.v 2), (.v 1)]),
    .ret (.v 2)]
def fn_SortedList_add : Fn := ⟨2, 3, b_SortedList_add⟩
def b_SortedList_remove : List Sm :=
  [.ex (.call F_need_record [(.fsp (.v 0)), (.v 1)]),
    .iff (.op .notin (.v 1) (.frw (.v 0))) [.rse X_NotFound] [],
    .asg (.nm 2) (.idx (.frw (.v 0)) (.v 1)),
    .ex (.meth .popAt (.frw (.v 0)) [(.v 2)]),
    .ret (.v 2)]
def fn_SortedList_remove : Fn := ⟨2, 3, b_SortedList_remove⟩
def b_SortedList_records : List Sm :=
  [.ret (.listof 0 (.frw (.v 0)))]
def fn_SortedList_records : Fn := ⟨1, 1, b_SortedList_records⟩
def b_SortedList_between : List Sm :=
  [.ex (.call F_need_record [(.fsp (.v 0)), (.v 1)]),
    .ex (.call F_need_record [(.fsp (.v 0)), (.v 2)]),
    .par [3, 4] [(.op .ix (.fsp (.v 0)) (.c (.int 1))), (.lst 1 [])],
    .for_ (.nm 5) (.seq (.frw (.v 0))) [.iff (.and [(.op .le (.call F_compared [(.v 3), (.v 1), (.v 5)]) (.c (.int 0))), (.op .le (.call F_compared [(.v 3), (.v 5), (.v 2)]) (.c (.int 0)))]) [.ex (.meth .append (.v 4) [(.v 5)])] []],
    .retF 4]
def fn_SortedList_between : Fn := ⟨3, 6, b_SortedList_between⟩
def b_SortedList_copy : List Sm :=
  [.asg (.nm 1) (.make F_SortedList_make (.fsp (.v 0))),
    .setRw 1 (.listof 1 (.frw (.v 0))),
    .ret (.v 1)]
def fn_SortedList_copy : Fn := ⟨1, 2, b_SortedList_copy⟩
def b_SortedListX_lenX : List Sm :=
  [.ret (.bi .len [(.frw (.v 0))])]
def fn_SortedListX_lenX : Fn := ⟨1, 1, b_SortedListX_lenX⟩
def b_law_do : List Sm :=
  [.tryW [X_InvalidSpec, X_InvalidRecord, X_InvalidList, X_Incomparable, X_TooLong, X_Inconsistent, X_Unsorted, X_NotFound, X_InvalidFormat] [.iff (.op .eq (.v 1) (.c (.int 0))) [.ret (.mcall F_SortedList_add (.v 0) [(.v 2)])] [],
      .iff (.op .eq (.v 1) (.c (.int 1))) [.ret (.mcall F_SortedList_remove (.v 0) [(.v 2)])] [],
      .ret (.mcall F_SortedList_between (.v 0) [(.v 2), (.v 3)])]]
def fn_law_do : Fn := ⟨4, 5, b_law_do⟩
def b_law_k10 : List Sm :=
  [.asg (.nm 1) (.lst 1 [(.c (.int 0)), (.c (.int 0))]),
    .asg (.nm 2) (.call F_law_pick [(.v 0), (.v 1), (.lst 0 [(.c (.int 1)), (.c (.int 1)), (.c (.int 2))])]),
    .asg (.nm 3) (.call F_law_order [(.v 0), (.v 1), (.v 2)]),
    .asg (.tup [(.nm 4), (.nm 5), (.nm 6)]) (.tup [(.op .ix (.v 3) (.c (.int 1))), (.make F_SortedList_make (.v 3)), (.lst 0 [])]),
    .par [7, 8] [(.mcall F_SortedList_copy (.v 5) []), (.lst 0 [])],
    .for_ (.nm 9) (.range1 (.c (.int 20))) [.asg (.tup [(.nm 10), (.nm 11)]) (.tup [(.call F_law_draw [(.v 0), (.v 1), (.c (.int 4))]), (.call F_law_record [(.v 0), (.v 1), (.v 2)])]),
      .iff (.and [(.op .ne (.v 6) (.lst 0 [])), (.op .eq (.call F_law_draw [(.v 0), (.v 1), (.c (.int 2))]) (.c (.int 0)))]) [.asg (.nm 11) (.call F_law_pick [(.v 0), (.v 1), (.v 6)])] [],
      .iff (.op .lt (.v 10) (.c (.int 2))) [.asg (.nm 12) (.bi .len [(.comp 0 (.nm 16) (.seq (.v 6)) (some (.op .le (.call F_law_compare [(.v 4), (.v 16), (.v 11)]) (.c (.int 0)))) (.v 16))]),
        .iff (.op .ne (.call F_law_do [(.v 5), (.c (.int 0)), (.v 11), (.c (.non))]) (.v 12)) [.ret (.c (.bl false))] [],
        .ex (.meth .insert (.v 6) [(.v 12), (.v 11)])] [.iff (.op .eq (.v 10) (.c (.int 2))) [.asg (.nm 13) (.call F_law_do [(.v 5), (.c (.int 1)), (.v 11), (.c (.non))]),
          .iff (.op .ne (.v 13) (.ife (.op .in_ (.v 11) (.v 6)) (.idx (.v 6) (.v 11)) (.tup [(.c (.str [114, 97, 105, 115, 101, 100])), (.c (.int 7))]))) [.ret (.c (.bl false))] [],
          .iff (.op .in_ (.v 11) (.v 6)) [.ex (.meth .remove (.v 6) [(.v 11)])] []] [.asg (.nm 14) (.call F_law_record [(.v 0), (.v 1), (.v 2)]),
          .asg (.nm 15) (.comp 0 (.nm 16) (.seq (.v 6)) (some (.and [(.op .le (.call F_law_compare [(.v 4), (.v 11), (.v 16)]) (.c (.int 0))), (.op .le (.call F_law_compare [(.v 4), (.v 16), (.v 14)]) (.c (.int 0)))])) (.v 16)),
          .iff (.op .ne (.call F_law_do [(.v 5), (.c (.int 2)), (.v 11), (.v 14)]) (.v 15)) [.ret (.c (.bl false))] []]],
      .iff (.or [(.op .ne (.mcall F_SortedList_records (.v 5) []) (.v 6)), (.op .ne (.mlen F_SortedListX_lenX (.v 5)) (.bi .len [(.v 6)])), (.op .ne (.mcall F_SortedList_records (.v 7) []) (.v 8))]) [.ret (.c (.bl false))] [],
      .iff (.op .eq (.v 9) (.c (.int 9))) [.par [7, 8] [(.mcall F_SortedList_copy (.v 5) []), (.listof 0 (.v 6))]] []],
    .ret (.c (.bl true))]
def fn_law_k10 : Fn := ⟨1, 17, b_law_k10⟩
def b_SortedList_copy_v2 : List Sm :=
  [.ex (.call F_wall [(.c (.int 0))])]
def fn_SortedList_copy_v2 : Fn := ⟨1, 1, b_SortedList_copy_v2⟩
def b_law_made : List Sm :=
  [.tryW [X_InvalidSpec, X_InvalidRecord, X_InvalidList, X_Incomparable, X_TooLong, X_Inconsistent, X_Unsorted, X_NotFound, X_InvalidFormat] [.ret (.mlen F_SortedListX_lenX (.make F_SortedList_make (.v 0)))]]
def fn_law_made : Fn := ⟨1, 2, b_law_made⟩
def b_law_k11 : List Sm :=
  [.asg (.nm 1) (.lst 1 [(.c (.int 0)), (.c (.int 0))]),
    .asg (.nm 2) (.op .add (.c (.int 1)) (.call F_law_draw [(.v 0), (.v 1), (.c (.int 2))])),
    .asg (.nm 3) (.call F_law_order [(.v 0), (.v 1), (.v 2)]),
    .for_ (.nm 4) (.seq (.tup [(.c (.non)), (.tup []), (.tup [(.v 2)]), (.tup [(.c (.int 0)), (.tup [])]), (.lst 0 [(.v 2), (.tup [])]), (.c (.str [115, 112, 101, 99])), (.op .ix (.v 3) (.c (.int 1)))])) [.iff (.op .ne (.call F_law_made [(.v 4)]) (.tup [(.c (.str [114, 97, 105, 115, 101, 100])), (.c (.int 0))])) [.ret (.c (.bl false))] []],
    .for_ (.nm 5) (.seq (.tup [(.c (.str [110, 117, 109, 98, 101, 114])), (.c (.str [116, 101, 120, 116])), (.c (.str [108, 101, 110, 103, 116, 104])), (.c (.str [115, 112, 101, 108, 108, 105, 110, 103]))])) [.iff (.op .ne (.call F_law_made [(.tup [(.v 2), (.tup [(.tup [(.v 5), (.c (.int 0)), (.c (.str [97, 115, 99]))])])])]) (.tup [(.c (.str [114, 97, 105, 115, 101, 100])), (.c (.int 5))])) [.ret (.c (.bl false))] []],
    .iff (.or [(.op .ne (.call F_law_made [(.tup [(.v 2), (.tup [])])]) (.c (.int 0))), (.op .ne (.call F_law_made [(.v 3)]) (.c (.int 0)))]) [.ret (.c (.bl false))] [],
    .par [6, 7] [(.make F_SortedList_make (.v 3)), (.call F_law_record [(.v 0), (.v 1), (.v 2)])],
    .iff (.op .ne (.call F_law_do [(.v 6), (.c (.int 1)), (.v 7), (.c (.non))]) (.tup [(.c (.str [114, 97, 105, 115, 101, 100])), (.c (.int 7))])) [.ret (.c (.bl false))] [],
    .ex (.mcall F_SortedList_add (.v 6) [(.v 7)]),
    .asg (.nm 8) (.lst 1 [(.c (.non)), (.listof 0 (.v 7)), (.op .add (.v 7) (.tup [(.c (.non))])), (.slice (.v 7) (some (.c (.int 1))) none), (.op .mul (.tup [(.c (.bl true))]) (.v 2)), (.op .mul (.tup [(.c (.str []))]) (.v 2))]),
    .ex (.meth .extend (.v 8) [(.lst 0 [(.op .mul (.tup [(.c (.int 1000000000))]) (.v 2)), (.c (.int 5))])]),
    .for_ (.nm 4) (.seq (.v 8)) [.asg (.nm 9) (.lst 1 [(.call F_law_do [(.v 6), (.c (.int 0)), (.v 4), (.c (.non))]), (.call F_law_do [(.v 6), (.c (.int 1)), (.v 4), (.c (.non))])]),
      .ex (.meth .extend (.v 9) [(.lst 0 [(.call F_law_do [(.v 6), (.c (.int 2)), (.v 4), (.v 7)]), (.call F_law_do [(.v 6), (.c (.int 2)), (.v 7), (.v 4)])])]),
      .iff (.or [(.op .ne (.v 9) (.op .mul (.lst 0 [(.tup [(.c (.str [114, 97, 105, 115, 101, 100])), (.c (.int 1))])]) (.c (.int 4)))), (.op .ne (.mcall F_SortedList_records (.v 6) []) (.lst 0 [(.v 7)]))]) [.ret (.c (.bl false))] []],
    .ex (.meth .append (.mcall F_SortedList_records (.v 6) []) [(.v 7)]),
    .ex (.meth .append (.mcall F_SortedList_between (.v 6) [(.v 7), (.v 7)]) [(.v 7)]),
    .iff (.or [(.op .ne (.mlen F_SortedListX_lenX (.v 6)) (.c (.int 1))), (.op .ne (.call F_law_do [(.v 6), (.c (.int 1)), (.v 7), (.c (.non))]) (.c (.int 0)))]) [.ret (.c (.bl false))] [],
    .ret (.op .eq (.call F_law_do [(.v 6), (.c (.int 1)), (.v 7), (.c (.non))]) (.tup [(.c (.str [114, 97, 105, 115, 101, 100])), (.c (.int 7))]))]
def fn_law_k11 : Fn := ⟨1, 10, b_law_k11⟩
def b_step_line : List Sm :=
  [.asg (.tup [(.nm 1), (.nm 2), (.nm 3)]) (.v 0),
    .iff (.op .eq (.v 1) (.c (.str [114, 97, 110, 107]))) [.asg (.nm 3) (.un (.joinW [60]) (.comp 0 (.nm 4) (.seq (.v 3)) none (.un (.joinW [61]) (.v 4))))] [],
    .ret (.op .add (.op .add (.op .add (.op .add (.op .add (.v 1) (.c (.str [32]))) (.bi .str [(.v 2)])) (.c (.str [32]))) (.v 3)) (.c (.str [10])))]
def fn_step_line : Fn := ⟨1, 5, b_step_line⟩
def b_formatted : List Sm :=
  [.ret (.op .add (.op .add (.op .add (.c (.str [119, 105, 100, 116, 104, 32])) (.bi .str [(.op .ix (.v 0) (.c (.int 0)))])) (.c (.str [10]))) (.un (.joinW []) (.comp 0 (.nm 1) (.seq (.op .ix (.v 0) (.c (.int 1)))) none (.call F_step_line [(.v 1)]))))]
def fn_formatted : Fn := ⟨1, 2, b_formatted⟩
def b_format_spec : List Sm :=
  [.ex (.call F_need_spec [(.v 0)]),
    .ret (.call F_formatted [(.v 0)])]
def fn_format_spec : Fn := ⟨1, 1, b_format_spec⟩
def b_digit : List Sm :=
  [.ret (.ife (.and [(.op .eq (.bi .len [(.v 0)]) (.c (.int 1))), (.op .in_ (.v 0) (.g 9 c_DIGITS))]) (.bi .int [(.v 0)]) (.un .neg (.c (.int 1))))]
def fn_digit : Fn := ⟨1, 1, b_digit⟩
def b_parsed_step : List Sm :=
  [.asg (.nm 1) (.un (.splitW [32]) (.v 0)),
    .iff (.op .ne (.bi .len [(.v 1)]) (.c (.int 3))) [.ret (.c (.non))] [],
    .asg (.tup [(.nm 2), (.nm 3), (.nm 4)]) (.v 1),
    .iff (.op .eq (.v 2) (.c (.str [114, 97, 110, 107]))) [.asg (.nm 4) (.bi .tuple [(.comp 0 (.nm 5) (.seq (.un (.splitW [60]) (.v 4))) none (.bi .tuple [(.un (.splitW [61]) (.v 5))]))])] [],
    .ret (.tup [(.v 2), (.call F_digit [(.v 3)]), (.v 4)])]
def fn_parsed_step : Fn := ⟨1, 6, b_parsed_step⟩
def b_parse_spec : List Sm :=
  [.iff (.not (.un .isStr (.v 0))) [.rse X_InvalidFormat] [],
    .asg (.nm 1) (.un (.splitW [10]) (.v 0)),
    .asg (.nm 2) (.bi .tuple [(.comp 0 (.nm 4) (.seq (.slice (.v 1) (some (.c (.int 1))) (some (.un .neg (.c (.int 1)))))) none (.call F_parsed_step [(.v 4)]))]),
    .asg (.nm 3) (.tup [(.call F_digit [(.slice (.op .ix (.v 1) (.c (.int 0))) (some (.c (.int 6))) none)]), (.v 2)]),
    .iff (.or [(.not (.call F_is_spec [(.v 3)])), (.op .ne (.call F_formatted [(.v 3)]) (.v 0))]) [.rse X_InvalidFormat] [],
    .ret (.v 3)]
def fn_parse_spec : Fn := ⟨1, 5, b_parse_spec⟩
def b_law_lines : List Sm :=
  [.asg (.nm 1) (.lst 1 [(.op .add (.c (.str [119, 105, 100, 116, 104, 32])) (.bi .str [(.op .ix (.v 0) (.c (.int 0)))]))]),
    .for_ (.tup [(.nm 2), (.nm 3), (.nm 4)]) (.seq (.op .ix (.v 0) (.c (.int 1)))) [.iff (.op .eq (.v 2) (.c (.str [114, 97, 110, 107]))) [.asg (.nm 4) (.un (.joinW [60]) (.comp 0 (.nm 5) (.seq (.v 4)) none (.un (.joinW [61]) (.v 5))))] [],
      .ex (.meth .append (.v 1) [(.un (.joinW [32]) (.lst 0 [(.v 2), (.bi .str [(.v 3)]), (.v 4)]))])],
    .ret (.un (.joinW [10]) (.op .add (.v 1) (.lst 0 [(.c (.str []))])))]
def fn_law_lines : Fn := ⟨1, 6, b_law_lines⟩
def b_law_ask_v3 : List Sm :=
  [.tryW [X_InvalidSpec, X_InvalidRecord, X_InvalidList, X_Incomparable, X_TooLong, X_Inconsistent, X_Unsorted, X_NotFound, X_InvalidFormat] [.ret (.callx (.op .ix (.lst 0 [(.g 1101 (.fn 101)), (.g 1104 (.fn 104))]) (.v 0)) [(.v 1)])]]
def fn_law_ask_v3 : Fn := ⟨2, 3, b_law_ask_v3⟩
def b_law_k12 : List Sm :=
  [.asg (.nm 1) (.lst 1 [(.c (.int 0)), (.c (.int 0))]),
    .asg (.nm 2) (.call F_law_spec [(.v 0), (.v 1), (.op .add (.c (.int 1)) (.call F_law_draw [(.v 0), (.v 1), (.c (.int 2))])), (.c (.int 6))]),
    .asg (.nm 3) (.call F_law_lines [(.v 2)]),
    .iff (.or [(.op .ne (.call F_law_ask_v3 [(.c (.int 0)), (.v 2)]) (.v 3)), (.op .ne (.call F_law_ask_v3 [(.c (.int 1)), (.v 3)]) (.v 2))]) [.ret (.c (.bl false))] [],
    .for_ (.nm 4) (.range1 (.c (.int 8))) [.asg (.nm 9) (.call F_law_draw [(.v 0), (.v 1), (.op .add (.bi .len [(.v 3)]) (.c (.int 1)))]),
      .asg (.nm 10) (.call F_law_pick [(.v 0), (.v 1), (.lst 0 [(.c (.str [])), (.c (.str [97])), (.c (.str [32])), (.c (.str [48])), (.c (.str [49])), (.c (.str [60])), (.c (.str [61])), (.c (.str [10])), (.c (.str [99])), (.c (.str [50]))])]),
      .asg (.nm 11) (.op .add (.op .add (.slice (.v 3) none (some (.v 9))) (.v 10)) (.slice (.v 3) (some (.op .add (.v 9) (.call F_law_draw [(.v 0), (.v 1), (.c (.int 2))]))) none)),
      .asg (.nm 12) (.call F_law_ask_v3 [(.c (.int 1)), (.v 11)]),
      .iff (.or [(.and [(.op .ne (.v 12) (.tup [(.c (.str [114, 97, 105, 115, 101, 100])), (.c (.int 8))])), (.op .ne (.call F_law_lines [(.v 12)]) (.v 11))]), (.and [(.op .eq (.v 11) (.v 3)), (.op .ne (.v 12) (.v 2))])]) [.ret (.c (.bl false))] []],
    .asg (.nm 5) (.lst 1 [(.c (.non)), (.c (.str [])), (.c (.str [10])), (.slice (.v 3) none (some (.un .neg (.c (.int 1))))), (.op .add (.v 3) (.c (.str [10]))), (.op .add (.c (.str [32])) (.v 3)), (.c (.str [119, 105, 100, 116, 104, 32, 51, 10])), (.c (.str [119, 105, 100, 116, 104, 32, 48, 10])), (.c (.str [119, 105, 100, 116, 104, 10]))]),
    .ex (.meth .extend (.v 5) [(.lst 0 [(.c (.str [119, 105, 100, 116, 104, 32, 32, 49, 10])), (.c (.str [119, 105, 100, 116, 104, 32, 49, 32, 10])), (.c (.str [87, 105, 100, 116, 104, 32, 49, 10])), (.c (.str [119, 105, 100, 116, 104, 32, 48, 49, 10]))])]),
    .asg (.nm 6) (.lst 1 [(.c (.str [110, 117, 109, 98, 101, 114, 32, 48])), (.c (.str [110, 117, 109, 98, 101, 114, 32, 49, 32, 97, 115, 99])), (.c (.str [110, 117, 109, 98, 101, 114, 32, 48, 32, 117, 112])), (.c (.str [110, 117, 109, 98, 101, 114, 32, 48, 48, 32, 97, 115, 99])), (.c (.str [110, 117, 109, 98, 101, 114, 32, 32, 48, 32, 97, 115, 99]))]),
    .ex (.meth .extend (.v 6) [(.lst 0 [(.c (.str [110, 117, 109, 98, 101, 114, 32, 48, 32, 97, 115, 99, 32])), (.c (.str [115, 105, 122, 101, 32, 48, 32, 97, 115, 99])), (.c (.str [114, 97, 110, 107, 32, 48, 32, 110, 111, 110, 101])), (.c (.str [114, 97, 110, 107, 32, 48, 32, 97, 115, 99]))])]),
    .for_ (.nm 7) (.seq (.v 6)) [.ex (.meth .append (.v 5) [(.op .add (.op .add (.c (.str [119, 105, 100, 116, 104, 32, 49, 10])) (.v 7)) (.c (.str [10])))])],
    .asg (.nm 6) (.lst 1 [(.c (.str [110, 111, 110, 101, 60, 110, 117, 109, 98, 101, 114])), (.c (.str [110, 111, 110, 101, 60, 110, 117, 109, 98, 101, 114, 60, 116, 101, 120, 116, 60])), (.c (.str [110, 111, 110, 101, 61, 116, 101, 120, 116, 61, 110, 117, 109, 98, 101, 114])), (.c (.str [110, 111, 110, 101, 60, 110, 117, 109, 98, 101, 114, 60, 116, 101, 120, 116, 60, 116, 101, 120, 116]))]),
    .ex (.meth .extend (.v 6) [(.lst 0 [(.c (.str [110, 111, 110, 101, 32, 60, 110, 117, 109, 98, 101, 114, 60, 116, 101, 120, 116])), (.c (.str [110, 111, 110, 101, 60, 110, 117, 109, 98, 101, 114, 44, 116, 101, 120, 116])), (.c (.str [60, 110, 111, 110, 101, 60, 110, 117, 109, 98, 101, 114, 60, 116, 101, 120, 116]))])]),
    .for_ (.nm 8) (.seq (.v 6)) [.ex (.meth .append (.v 5) [(.op .add (.op .add (.c (.str [119, 105, 100, 116, 104, 32, 49, 10, 114, 97, 110, 107, 32, 48, 32])) (.v 8)) (.c (.str [10])))])],
    .ex (.meth .extend (.v 5) [(.lst 0 [(.op .add (.c (.str [119, 105, 100, 116, 104, 32, 49, 10])) (.op .mul (.c (.str [110, 117, 109, 98, 101, 114, 32, 48, 32, 97, 115, 99, 10])) (.c (.int 7)))), (.c (.int 5)), (.lst 0 [(.c (.str [119, 105, 100, 116, 104, 32, 49, 10]))]), (.c (.str [119, 105, 100, 116, 104, 32, 49, 10, 10])), (.c (.str [119, 105, 100, 116, 104, 32, 49]))])]),
    .ex (.meth .extend (.v 5) [(.lst 0 [(.c (.str [110, 117, 109, 98, 101, 114, 32, 48, 32, 97, 115, 99, 10])), (.c (.str [119, 105, 100, 116, 104, 32, 120, 10]))])]),
    .iff (.op .ne (.comp 0 (.nm 13) (.seq (.v 5)) none (.call F_law_ask_v3 [(.c (.int 1)), (.v 13)])) (.op .mul (.lst 0 [(.tup [(.c (.str [114, 97, 105, 115, 101, 100])), (.c (.int 8))])]) (.bi .len [(.v 5)]))) [.ret (.c (.bl false))] [],
    .iff (.op .ne (.call F_law_ask_v3 [(.c (.int 1)), (.c (.str [119, 105, 100, 116, 104, 32, 50, 10]))]) (.tup [(.c (.int 2)), (.tup [])])) [.ret (.c (.bl false))] [],
    .ret (.op .eq (.comp 0 (.nm 13) (.seq (.tup [(.c (.non)), (.tup []), (.c (.str [119, 105, 100, 116, 104, 32, 49, 10])), (.tup [(.c (.int 1)), (.c (.non))])])) none (.call F_law_ask_v3 [(.c (.int 0)), (.v 13)])) (.op .mul (.lst 0 [(.tup [(.c (.str [114, 97, 105, 115, 101, 100])), (.c (.int 0))])]) (.c (.int 4))))]
def fn_law_k12 : Fn := ⟨1, 14, b_law_k12⟩
def b_law_k13 : List Sm :=
  [.asg (.nm 1) (.lst 1 [(.c (.int 0)), (.c (.int 0))]),
    .asg (.nm 2) (.call F_law_pick [(.v 0), (.v 1), (.lst 0 [(.c (.int 1)), (.c (.int 1)), (.c (.int 2))])]),
    .asg (.nm 3) (.call F_law_order [(.v 0), (.v 1), (.v 2)]),
    .asg (.nm 3) (.tup [(.v 2), (.slice (.op .ix (.v 3) (.c (.int 1))) none (some (.c (.int 3))))]),
    .asg (.nm 4) (.call F_law_order [(.v 0), (.v 1), (.v 2)]),
    .asg (.nm 4) (.tup [(.v 2), (.slice (.op .ix (.v 4) (.c (.int 1))) none (some (.c (.int 3))))]),
    .iff (.and [(.call F_is_consistent [(.v 3)]), (.call F_is_consistent [(.v 4)]), (.not (.call F_is_consistent [(.call F_combined [(.v 3), (.v 4)])]))]) [.ret (.c (.bl false))] [],
    .iff (.op .isnot (.call F_not_refined [(.call F_combined [(.v 3), (.v 4)]), (.v 3)]) (.c (.non))) [.ret (.c (.bl false))] [],
    .par [5, 6] [(.call F_law_spec [(.v 0), (.v 1), (.v 2), (.c (.int 3))]), (.call F_law_spec [(.v 0), (.v 1), (.v 2), (.c (.int 3))])],
    .par [7, 8] [(.call F_violation [(.v 5)]), (.call F_violation [(.call F_reversed_spec [(.v 5)])])],
    .iff (.or [(.op .ne (.op .is_ (.v 7) (.c (.non))) (.op .is_ (.v 8) (.c (.non)))), (.and [(.op .isnot (.v 7) (.c (.non))), (.op .ne (.call F_law_size [(.v 7)]) (.call F_law_size [(.v 8)]))])]) [.ret (.c (.bl false))] [],
    .iff (.op .isnot (.call F_not_refined [(.call F_combined [(.v 5), (.v 6)]), (.v 5)]) (.c (.non))) [.ret (.c (.bl false))] [],
    .iff (.op .isnot (.call F_difference [(.v 5), (.call F_reversed_spec [(.call F_reversed_spec [(.v 5)])])]) (.c (.non))) [.ret (.c (.bl false))] [],
    .asg (.nm 9) (.and [(.op .is_ (.call F_not_refined [(.v 5), (.v 6)]) (.c (.non))), (.op .is_ (.call F_not_refined [(.v 6), (.v 5)]) (.c (.non)))]),
    .iff (.op .ne (.v 9) (.op .is_ (.call F_difference [(.v 5), (.v 6)]) (.c (.non)))) [.ret (.c (.bl false))] [],
    .asg (.nm 10) (.call F_combined [(.v 5), (.v 5)]),
    .iff (.op .isnot (.call F_difference [(.v 10), (.v 5)]) (.c (.non))) [.ret (.c (.bl false))] [],
    .iff (.not (.bi .all [(.comp 0 (.nm 13) (.range2 (.bi .len [(.op .ix (.v 5) (.c (.int 1)))]) (.bi .len [(.op .ix (.v 10) (.c (.int 1)))])) none (.op .in_ (.v 13) (.call F_redundant [(.v 10)])))])) [.ret (.c (.bl false))] [],
    .par [11, 12] [(.call F_difference [(.v 5), (.v 6)]), (.call F_difference [(.call F_reversed_spec [(.v 6)]), (.call F_reversed_spec [(.v 5)])])],
    .ret (.and [(.op .eq (.op .is_ (.v 11) (.c (.non))) (.op .is_ (.v 12) (.c (.non)))), (.or [(.op .is_ (.v 11) (.c (.non))), (.op .eq (.call F_law_size [(.v 11)]) (.call F_law_size [(.v 12)]))])])]
def fn_law_k13 : Fn := ⟨1, 14, b_law_k13⟩
def b_law_exchanged : List Sm :=
  [.ret (.tup [(.c (.int 2)), (.bi .tuple [(.comp 0 (.tup [(.nm 1), (.nm 2), (.nm 3)]) (.seq (.op .ix (.v 0) (.c (.int 1)))) none (.tup [(.v 1), (.op .sub (.c (.int 1)) (.v 2)), (.v 3)]))])])]
def fn_law_exchanged : Fn := ⟨1, 4, b_law_exchanged⟩
def b_law_total : List Sm :=
  [.ret (.ife (.op .is_ (.v 0) (.c (.non))) (.c (.non)) (.call F_law_size [(.v 0)]))]
def fn_law_total : Fn := ⟨1, 1, b_law_total⟩
def b_law_k14 : List Sm :=
  [.asg (.nm 1) (.lst 1 [(.c (.int 0)), (.c (.int 0))]),
    .par [2, 3] [(.call F_law_spec [(.v 0), (.v 1), (.c (.int 2)), (.c (.int 3))]), (.call F_law_spec [(.v 0), (.v 1), (.c (.int 2)), (.c (.int 2))])],
    .par [4, 5] [(.call F_law_exchanged [(.v 2)]), (.call F_law_exchanged [(.v 3)])],
    .iff (.or [(.op .ne (.call F_law_total [(.call F_violation [(.v 2)])]) (.call F_law_total [(.call F_violation [(.v 4)])])), (.op .ne (.call F_repair [(.v 2)]) (.call F_repair [(.v 4)]))]) [.ret (.c (.bl false))] [],
    .iff (.op .ne (.call F_redundant [(.v 2)]) (.call F_redundant [(.v 4)])) [.ret (.c (.bl false))] [],
    .iff (.op .ne (.call F_law_total [(.call F_difference [(.v 2), (.v 3)])]) (.call F_law_total [(.call F_difference [(.v 4), (.v 5)])])) [.ret (.c (.bl false))] [],
    .asg (.nm 6) (.call F_law_spec [(.v 0), (.v 1), (.c (.int 1)), (.c (.int 3))]),
    .asg (.nm 7) (.call F_law_draw [(.v 0), (.v 1), (.c (.int 2))]),
    .asg (.nm 8) (.tup [(.c (.int 2)), (.bi .tuple [(.comp 0 (.tup [(.nm 9), (.nm 10), (.nm 11)]) (.seq (.op .ix (.v 6) (.c (.int 1)))) none (.tup [(.v 9), (.v 7), (.v 11)]))])]),
    .iff (.or [(.op .ne (.call F_law_total [(.call F_violation [(.v 6)])]) (.call F_law_total [(.call F_violation [(.v 8)])])), (.op .ne (.call F_repair [(.v 6)]) (.call F_repair [(.v 8)]))]) [.ret (.c (.bl false))] [],
    .ret (.op .eq (.call F_redundant [(.v 6)]) (.call F_redundant [(.v 8)]))]
def fn_law_k14 : Fn := ⟨1, 12, b_law_k14⟩
def b_law_k15 : List Sm :=
  [.asg (.nm 1) (.lst 1 [(.c (.int 0)), (.c (.int 0))]),
    .asg (.tup [(.nm 2), (.nm 3)]) (.comp 0 (.nm 14) (.range1 (.c (.int 2))) none (.call F_law_pick [(.v 0), (.v 1), (.lst 0 [(.c (.str [97, 115, 99])), (.c (.str [100, 101, 115, 99]))])])),
    .for_ (.nm 4) (.seq (.tup [(.c (.str [110, 117, 109, 98, 101, 114])), (.c (.str [116, 101, 120, 116])), (.c (.str [108, 101, 110, 103, 116, 104])), (.c (.str [115, 112, 101, 108, 108, 105, 110, 103]))])) [.asg (.nm 13) (.call F_violation [(.tup [(.c (.int 1)), (.tup [(.tup [(.v 4), (.c (.int 0)), (.v 2)])])])]),
      .iff (.or [(.op .is_ (.v 13) (.c (.non))), (.op .ne (.call F_law_size [(.v 13)]) (.ife (.op .eq (.v 4) (.c (.str [108, 101, 110, 103, 116, 104]))) (.c (.int 3)) (.c (.int 2))))]) [.ret (.c (.bl false))] [],
      .iff (.op .ne (.call F_repair [(.tup [(.c (.int 1)), (.tup [(.tup [(.v 4), (.c (.int 0)), (.v 2)])])])]) (.tup [(.c (.int 0))])) [.ret (.c (.bl false))] []],
    .asg (.nm 5) (.lst 1 [(.c (.str [110, 111, 110, 101])), (.c (.str [110, 117, 109, 98, 101, 114])), (.c (.str [116, 101, 120, 116]))]),
    .asg (.nm 6) (.lst 1 [(.tup [(.c (.str [110, 117, 109, 98, 101, 114])), (.c (.int 0)), (.v 2)]), (.tup [(.c (.str [116, 101, 120, 116])), (.c (.int 0)), (.v 3)]), (.tup [(.c (.str [108, 101, 110, 103, 116, 104])), (.c (.int 0)), (.v 2)]), (.tup [(.c (.str [115, 112, 101, 108, 108, 105, 110, 103])), (.c (.int 0)), (.v 3)])]),
    .asg (.nm 7) (.lst 1 []),
    .whl (.op .ne (.v 5) (.lst 0 [])) [.ex (.meth .append (.v 7) [(.tup [(.meth .popAt (.v 5) [(.call F_law_draw [(.v 0), (.v 1), (.bi .len [(.v 5)])])])])])],
    .asg (.nm 8) (.lst 1 []),
    .whl (.op .ne (.v 6) (.lst 0 [])) [.ex (.meth .append (.v 8) [(.meth .popAt (.v 6) [(.call F_law_draw [(.v 0), (.v 1), (.bi .len [(.v 6)])])])])],
    .asg (.nm 9) (.tup [(.tup [(.c (.str [114, 97, 110, 107])), (.c (.int 0)), (.bi .tuple [(.v 7)])])]),
    .asg (.nm 10) (.call F_law_draw [(.v 0), (.v 1), (.c (.int 5))]),
    .iff (.or [(.not (.call F_is_consistent [(.tup [(.c (.int 1)), (.op .add (.v 9) (.bi .tuple [(.slice (.v 8) none (some (.v 10)))]))])])), (.op .ne (.call F_repair [(.tup [(.c (.int 1)), (.op .add (.v 9) (.bi .tuple [(.v 8)]))])]) (.tup []))]) [.ret (.c (.bl false))] [],
    .asg (.nm 11) (.tup [(.tup [(.c (.str [114, 97, 110, 107])), (.c (.int 0)), (.tup [(.tup [(.c (.str [110, 111, 110, 101]))]), (.tup [(.c (.str [110, 117, 109, 98, 101, 114])), (.c (.str [116, 101, 120, 116]))])])])]),
    .iff (.not (.call F_is_consistent [(.tup [(.c (.int 1)), (.op .add (.v 11) (.tup [(.tup [(.c (.str [115, 112, 101, 108, 108, 105, 110, 103])), (.c (.int 0)), (.v 2)])]))])])) [.ret (.c (.bl false))] [],
    .iff (.call F_is_consistent [(.tup [(.c (.int 1)), (.op .add (.v 11) (.tup [(.tup [(.c (.str [110, 117, 109, 98, 101, 114])), (.c (.int 0)), (.v 2)])]))])]) [.ret (.c (.bl false))] [],
    .asg (.nm 12) (.op .add (.v 11) (.tup [(.tup [(.c (.str [110, 117, 109, 98, 101, 114])), (.c (.int 0)), (.v 2)]), (.tup [(.c (.str [115, 112, 101, 108, 108, 105, 110, 103])), (.c (.int 0)), (.v 3)])])),
    .iff (.not (.call F_is_consistent [(.tup [(.c (.int 1)), (.v 12)])])) [.ret (.c (.bl false))] [],
    .iff (.or [(.op .ne (.call F_repair [(.tup [(.c (.int 1)), (.op .add (.v 9) (.v 11))])]) (.tup [])), (.op .ne (.call F_repair [(.tup [(.c (.int 1)), (.op .add (.tup [(.tup [(.c (.str [110, 117, 109, 98, 101, 114])), (.c (.int 0)), (.v 2)])]) (.v 9))])]) (.tup []))]) [.ret (.c (.bl false))] [],
    .iff (.op .ne (.call F_repair [(.tup [(.c (.int 1)), (.op .add (.v 11) (.tup [(.tup [(.c (.str [108, 101, 110, 103, 116, 104])), (.c (.int 0)), (.v 2)])]))])]) (.tup [(.c (.int 1))])) [.ret (.c (.bl false))] [],
    .ret (.op .eq (.call F_repair [(.tup [(.c (.int 1)), (.tup [(.tup [(.c (.str [108, 101, 110, 103, 116, 104])), (.c (.int 0)), (.v 2)]), (.tup [(.c (.str [110, 117, 109, 98, 101, 114])), (.c (.int 0)), (.v 3)])])])]) (.tup [(.c (.int 0)), (.c (.int 1))]))]
def fn_law_k15 : Fn := ⟨1, 15, b_law_k15⟩
def b_SortedList_remove_v2 : List Sm :=
  [.ex (.call F_wall [(.c (.int 0))])]
def fn_SortedList_remove_v2 : Fn := ⟨2, 2, b_SortedList_remove_v2⟩
def b_SortedList_between_v2 : List Sm :=
  [.ex (.call F_wall [(.c (.int 1))])]
def fn_SortedList_between_v2 : Fn := ⟨3, 3, b_SortedList_between_v2⟩
def b_SortedList_copy_v3 : List Sm :=
  [.ex (.call F_wall [(.c (.int 2))])]
def fn_SortedList_copy_v3 : Fn := ⟨1, 1, b_SortedList_copy_v3⟩
def b_law_bags : List Sm :=
  [.ret (.comp 0 (.nm 1) (.seq (.v 0)) none (.sorted (.comp 0 (.nm 2) (.seq (.v 1)) none (.un .reprT (.v 2)))))]
def fn_law_bags : Fn := ⟨1, 3, b_law_bags⟩
def b_law_k16 : List Sm :=
  [.asg (.nm 1) (.lst 1 [(.c (.int 0)), (.c (.int 0))]),
    .asg (.nm 2) (.c (.int 1)),
    .asg (.nm 3) (.call F_law_order [(.v 0), (.v 1), (.v 2)]),
    .asg (.nm 4) (.comp 0 (.nm 13) (.range1 (.call F_law_draw [(.v 0), (.v 1), (.c (.int 7))])) none (.call F_law_record [(.v 0), (.v 1), (.v 2)])),
    .asg (.nm 4) (.op .add (.v 4) (.comp 0 (.nm 13) (.range1 (.c (.int 2))) (some (.op .ne (.v 4) (.lst 0 []))) (.call F_law_pick [(.v 0), (.v 1), (.v 4)]))),
    .par [5, 6] [(.listof 1 (.v 4)), (.lst 1 [])],
    .whl (.op .ne (.v 5) (.lst 0 [])) [.ex (.meth .append (.v 6) [(.meth .popAt (.v 5) [(.call F_law_draw [(.v 0), (.v 1), (.bi .len [(.v 5)])])])])],
    .fz 6,
    .asg (.nm 7) (.call F_law_bags [(.call F_groups [(.v 3), (.v 4)])]),
    .iff (.op .ne (.call F_law_bags [(.call F_groups [(.v 3), (.v 6)])]) (.v 7)) [.ret (.c (.bl false))] [],
    .iff (.op .ne (.call F_law_bags [(.call F_groups [(.call F_reversed_spec [(.v 3)]), (.v 6)])]) (.rev (.v 7))) [.ret (.c (.bl false))] [],
    .par [8, 9] [(.make F_SortedList_make (.v 3)), (.call F_sort [(.v 3), (.v 6)])],
    .for_ (.nm 10) (.seq (.v 6)) [.ex (.mcall F_SortedList_add (.v 8) [(.v 10)])],
    .iff (.op .ne (.mcall F_SortedList_records (.v 8) []) (.v 9)) [.ret (.c (.bl false))] [],
    .asg (.nm 11) (.call F_law_draw [(.v 0), (.v 1), (.op .add (.bi .len [(.v 6)]) (.c (.int 1)))]),
    .asg (.nm 12) (.call F_merge [(.v 3), (.call F_sort [(.v 3), (.slice (.v 6) none (some (.v 11)))]), (.call F_sort [(.v 3), (.slice (.v 6) (some (.v 11)) none)])]),
    .iff (.and [(.op .ne (.v 6) (.lst 0 [])), (.op .ne (.call F_insert [(.v 3), (.call F_sort [(.v 3), (.slice (.v 6) none (some (.un .neg (.c (.int 1)))))]), (.op .ix (.v 6) (.un .neg (.c (.int 1))))]) (.v 9))]) [.ret (.c (.bl false))] [],
    .ret (.and [(.op .eq (.v 12) (.call F_sort [(.v 3), (.v 6)])), (.op .eq (.call F_sort [(.v 3), (.v 12)]) (.v 12))])]
def fn_law_k16 : Fn := ⟨1, 14, b_law_k16⟩
def b_law_large : List Sm :=
  [.asg (.nm 2) (.call F_law_pick [(.v 0), (.v 1), (.lst 0 [(.c (.int 999999999)), (.c (.int 100000000)), (.c (.int 99999999)), (.c (.int 10000)), (.c (.int 123456789)), (.c (.int 10)), (.c (.int 9))])]),
    .asg (.nm 3) (.call F_law_pick [(.v 0), (.v 1), (.lst 0 [(.c (.str [97, 98, 99, 100, 101, 102, 103, 104, 105, 106, 107, 108])), (.c (.str [97, 98, 99, 100, 101, 102, 103, 104, 105, 106, 107])), (.c (.str [122, 122, 122, 122, 122, 122, 122, 122, 122, 122, 122, 122])), (.c (.str [98]))])]),
    .asg (.nm 3) (.call F_law_pick [(.v 0), (.v 1), (.lst 0 [(.v 3), (.op .mul (.c (.str [97])) (.op .add (.c (.int 1)) (.call F_law_draw [(.v 0), (.v 1), (.c (.int 12))])))])]),
    .asg (.nm 4) (.lst 1 [(.v 2), (.bi .max2 [(.op .sub (.v 2) (.c (.int 1))), (.c (.int 0))]), (.v 3), (.op .add (.slice (.v 3) none (some (.un .neg (.c (.int 1))))) (.c (.str [109])))]),
    .ex (.meth .extend (.v 4) [(.lst 0 [(.slice (.v 3) none (some (.op .add (.c (.int 1)) (.call F_law_draw [(.v 0), (.v 1), (.bi .len [(.v 3)])]))))])]),
    .ret (.call F_law_pick [(.v 0), (.v 1), (.op .add (.v 4) (.lst 0 [(.c (.non))]))])]
def fn_law_large : Fn := ⟨2, 5, b_law_large⟩
def b_law_k17 : List Sm :=
  [.asg (.nm 1) (.lst 1 [(.c (.int 0)), (.c (.int 0))]),
    .asg (.nm 2) (.op .add (.c (.int 1)) (.call F_law_draw [(.v 0), (.v 1), (.c (.int 2))])),
    .asg (.nm 3) (.ife (.op .eq (.call F_law_draw [(.v 0), (.v 1), (.c (.int 2))]) (.c (.int 0))) (.call F_law_spec [(.v 0), (.v 1), (.v 2), (.c (.int 5))]) (.call F_law_order [(.v 0), (.v 1), (.v 2)])),
    .asg (.nm 4) (.comp 0 (.nm 13) (.range1 (.c (.int 9))) none (.bi .tuple [(.comp 0 (.nm 15) (.range1 (.v 2)) none (.call F_law_large [(.v 0), (.v 1)]))])),
    .for_ (.nm 5) (.seq (.v 4)) [.for_ (.nm 11) (.seq (.slice (.v 4) none (some (.c (.int 4))))) [.iff (.op .ne (.call F_compare [(.v 3), (.v 5), (.v 11)]) (.call F_law_compare [(.op .ix (.v 3) (.c (.int 1))), (.v 5), (.v 11)])) [.ret (.c (.bl false))] []]],
    .asg (.tup [(.nm 6), (.nm 7)]) (.tup [(.op .ix (.v 3) (.c (.int 1))), (.call F_redundant [(.v 3)])]),
    .asg (.nm 8) (.tup [(.v 2), (.bi .tuple [(.comp 0 (.tup [(.nm 16), (.nm 17)]) (.enum (.v 6)) (some (.op .notin (.v 16) (.slice (.v 7) none (some (.c (.int 1)))))) (.v 17))])]),
    .for_ (.nm 5) (.seq (.v 4)) [.for_ (.nm 11) (.seq (.v 4)) [.iff (.op .ne (.call F_law_compare [(.v 6), (.v 5), (.v 11)]) (.call F_law_compare [(.op .ix (.v 8) (.c (.int 1))), (.v 5), (.v 11)])) [.ret (.c (.bl false))] []]],
    .iff (.not (.call F_is_consistent [(.v 3)])) [.ret (.c (.bl true))] [],
    .for_ (.nm 9) (.seq (.v 4)) [.for_ (.nm 12) (.seq (.v 4)) [.for_ (.nm 14) (.seq (.slice (.v 4) none (some (.c (.int 5))))) [.iff (.and [(.op .le (.call F_law_compare [(.v 6), (.v 9), (.v 12)]) (.c (.int 0))), (.op .le (.call F_law_compare [(.v 6), (.v 12), (.v 14)]) (.c (.int 0))), (.op .lt (.call F_law_compare [(.v 6), (.v 14), (.v 9)]) (.c (.int 0)))]) [.ret (.c (.bl false))] []]]],
    .asg (.nm 10) (.call F_sort [(.v 3), (.v 4)]),
    .ret (.and [(.call F_is_sorted [(.v 3), (.v 10)]), (.op .is_ (.call F_difference [(.v 3), (.v 8)]) (.c (.non))), (.op .eq (.call F_sort [(.v 8), (.v 4)]) (.v 10))])]
def fn_law_k17 : Fn := ⟨1, 18, b_law_k17⟩
def b_law_any_step : List Sm :=
  [.asg (.nm 2) (.call F_law_pick [(.v 0), (.v 1), (.lst 0 [(.c (.str [114, 97, 110, 107])), (.c (.str [110, 117, 109, 98, 101, 114])), (.c (.str [116, 101, 120, 116])), (.c (.str [108, 101, 110, 103, 116, 104])), (.c (.str [115, 112, 101, 108, 108, 105, 110, 103]))])]),
    .iff (.op .ne (.v 2) (.c (.str [114, 97, 110, 107]))) [.ret (.tup [(.v 2), (.c (.int 0)), (.call F_law_pick [(.v 0), (.v 1), (.lst 0 [(.c (.str [97, 115, 99])), (.c (.str [100, 101, 115, 99]))])])])] [],
    .asg (.nm 3) (.comp 0 (.nm 7) (.range1 (.c (.int 3))) none (.call F_law_draw [(.v 0), (.v 1), (.c (.int 3))])),
    .asg (.nm 4) (.lst 1 []),
    .for_ (.nm 5) (.range1 (.c (.int 3))) [.asg (.nm 6) (.bi .tuple [(.comp 0 (.tup [(.nm 7), (.nm 8)]) (.zip (.tup [(.c (.str [110, 111, 110, 101])), (.c (.str [110, 117, 109, 98, 101, 114])), (.c (.str [116, 101, 120, 116]))]) (.v 3)) (some (.op .eq (.v 8) (.v 5))) (.v 7))]),
      .iff (.op .ne (.v 6) (.tup [])) [.ex (.meth .append (.v 4) [(.v 6)])] []],
    .ret (.tup [(.v 2), (.c (.int 0)), (.bi .tuple [(.v 4)])])]
def fn_law_any_step : Fn := ⟨2, 9, b_law_any_step⟩
def b_law_k18 : List Sm :=
  [.asg (.nm 1) (.lst 1 [(.c (.int 0)), (.c (.int 0))]),
    .asg (.nm 2) (.lst 0 [(.c (.non)), (.c (.int 0)), (.c (.int 1)), (.c (.int 2)), (.c (.int 10)), (.c (.str [97])), (.c (.str [98])), (.c (.str [97, 97]))]),
    .asg (.nm 3) (.lst 1 []),
    .for_ (.nm 4) (.range1 (.c (.int 3))) [.ex (.meth .append (.v 3) [(.tup [(.c (.int 1)), (.bi .tuple [(.comp 0 (.nm 22) (.range1 (.call F_law_draw [(.v 0), (.v 1), (.c (.int 4))])) none (.call F_law_any_step [(.v 0), (.v 1)]))])])])],
    .fz 3,
    .asg (.nm 5) (.lst 1 []),
    .for_ (.nm 6) (.seq (.v 3)) [.asg (.nm 9) (.lst 1 []),
      .for_ (.nm 7) (.seq (.v 2)) [.ex (.meth .append (.v 9) [(.comp 0 (.nm 13) (.seq (.v 2)) none (.call F_law_compare [(.op .ix (.v 6) (.c (.int 1))), (.tup [(.v 7)]), (.tup [(.v 13)])]))])],
      .fz 9,
      .ex (.meth .append (.v 5) [(.v 9)]),
      .asg (.tup [(.nm 10), (.nm 11)]) (.tup [(.op .ix (.v 5) (.un .neg (.c (.int 1)))), (.c (.bl false))]),
      .for_ (.nm 12) (.range1 (.c (.int 8))) [.for_ (.nm 15) (.seq (.comp 0 (.nm 4) (.range1 (.c (.int 8))) (some (.op .le (.op .ix (.op .ix (.v 10) (.v 12)) (.v 4)) (.c (.int 0)))) (.v 4))) [.for_ (.nm 19) (.range1 (.c (.int 8))) [.asg (.nm 11) (.or [(.v 11), (.and [(.op .le (.op .ix (.op .ix (.v 10) (.v 15)) (.v 19)) (.c (.int 0))), (.op .lt (.op .ix (.op .ix (.v 10) (.v 19)) (.v 12)) (.c (.int 0)))])])]]],
      .iff (.op .eq (.call F_is_consistent [(.v 6)]) (.v 11)) [.ret (.c (.bl false))] []],
    .fz 5,
    .for_ (.tup [(.nm 7), (.nm 8)]) (.zip (.v 3) (.v 5)) [.for_ (.tup [(.nm 13), (.nm 14)]) (.zip (.v 3) (.v 5)) [.iff (.op .ne (.op .is_ (.call F_difference [(.v 7), (.v 13)]) (.c (.non))) (.op .eq (.v 8) (.v 14))) [.ret (.c (.bl false))] [],
        .asg (.nm 16) (.c (.bl true)),
        .for_ (.tup [(.nm 17), (.nm 18)]) (.zip (.v 8) (.v 14)) [.for_ (.tup [(.nm 20), (.nm 21)]) (.zip (.v 17) (.v 18)) [.asg (.nm 16) (.and [(.v 16), (.or [(.op .eq (.v 21) (.c (.int 0))), (.op .eq (.v 20) (.v 21))])])]],
        .iff (.op .ne (.op .is_ (.call F_not_refined [(.v 7), (.v 13)]) (.c (.non))) (.v 16)) [.ret (.c (.bl false))] []]],
    .ret (.c (.bl true))]
def fn_law_k18 : Fn := ⟨1, 23, b_law_k18⟩
def b_SortedList_copy_v4 : List Sm :=
  [.ex (.call F_wall [(.c (.int 1))])]
def fn_SortedList_copy_v4 : Fn := ⟨1, 1, b_SortedList_copy_v4⟩
def b_law_rest : List Sm :=
  [.iff (.op .ne (.call F_groups [(.v 0), (.lst 0 [(.tup [(.v 2)]), (.tup [(.v 5)]), (.tup [(.v 2)])])]) (.lst 0 [(.lst 0 [(.tup [(.v 2)]), (.tup [(.v 2)])]), (.lst 0 [(.tup [(.v 5)])])])) [.ret (.c (.bl false))] [],
    .asg (.nm 6) (.make F_SortedList_make (.v 0)),
    .iff (.op .ne (.lst 0 [(.mcall F_SortedList_add (.v 6) [(.tup [(.v 3)])]), (.mcall F_SortedList_add (.v 6) [(.tup [(.v 2)])]), (.mcall F_SortedList_add (.v 6) [(.tup [(.v 2)])]), (.mcall F_SortedList_add (.v 6) [(.tup [(.v 4)])])]) (.lst 0 [(.c (.int 0)), (.c (.int 0)), (.c (.int 1)), (.c (.int 3))])) [.ret (.c (.bl false))] [],
    .iff (.op .ne (.mcall F_SortedList_between (.v 6) [(.tup [(.v 3)]), (.tup [(.v 5)])]) (.lst 0 [(.tup [(.v 3)]), (.tup [(.v 4)])])) [.ret (.c (.bl false))] [],
    .iff (.op .ne (.call F_format_spec [(.v 1)]) (.c (.str [119, 105, 100, 116, 104, 32, 49, 10, 110, 117, 109, 98, 101, 114, 32, 48, 32, 97, 115, 99, 10, 115, 112, 101, 108, 108, 105, 110, 103, 32, 48, 32, 97, 115, 99, 10]))) [.ret (.c (.bl false))] [],
    .ret (.op .eq (.call F_parse_spec [(.c (.str [119, 105, 100, 116, 104, 32, 49, 10, 114, 97, 110, 107, 32, 48, 32, 110, 111, 110, 101, 61, 116, 101, 120, 116, 60, 110, 117, 109, 98, 101, 114, 10]))]) (.tup [(.c (.int 1)), (.tup [(.tup [(.c (.str [114, 97, 110, 107])), (.c (.int 0)), (.tup [(.tup [(.c (.str [110, 111, 110, 101])), (.c (.str [116, 101, 120, 116]))]), (.tup [(.c (.str [110, 117, 109, 98, 101, 114]))])])])])]))]
def fn_law_rest : Fn := ⟨6, 7, b_law_rest⟩
def b_law_k19 : List Sm :=
  [.asg (.nm 1) (.lst 1 [(.c (.int 0)), (.c (.int 0))]),
    .asg (.tup [(.nm 2), (.nm 3), (.nm 4)]) (.call F_law_pick [(.v 0), (.v 1), (.lst 0 [(.tup [(.c (.int 1)), (.c (.int 2)), (.c (.int 3))]), (.tup [(.c (.int 0)), (.c (.int 5)), (.c (.int 7))]), (.tup [(.c (.int 2)), (.c (.int 10)), (.c (.int 30))]), (.tup [(.c (.int 9)), (.c (.int 20)), (.c (.int 100))]), (.tup [(.c (.int 8)), (.c (.int 9)), (.c (.int 999999999))])])]),
    .asg (.nm 5) (.call F_law_pick [(.v 0), (.v 1), (.lst 0 [(.c (.str [97])), (.c (.str [98])), (.c (.str [122])), (.c (.str [97, 98, 99, 100, 101, 102, 103, 104, 105, 106, 107, 108]))])]),
    .asg (.nm 6) (.tup [(.c (.int 1)), (.tup [(.tup [(.c (.str [110, 117, 109, 98, 101, 114])), (.c (.int 0)), (.c (.str [97, 115, 99]))]), (.tup [(.c (.str [115, 112, 101, 108, 108, 105, 110, 103])), (.c (.int 0)), (.c (.str [97, 115, 99]))])])]),
    .asg (.nm 7) (.tup [(.tup [(.c (.str [110, 111, 110, 101]))]), (.tup [(.c (.str [110, 117, 109, 98, 101, 114]))]), (.tup [(.c (.str [116, 101, 120, 116]))])]),
    .asg (.nm 8) (.tup [(.c (.int 1)), (.tup [(.tup [(.c (.str [114, 97, 110, 107])), (.c (.int 0)), (.v 7)]), (.tup [(.c (.str [110, 117, 109, 98, 101, 114])), (.c (.int 0)), (.c (.str [97, 115, 99]))]), (.tup [(.c (.str [116, 101, 120, 116])), (.c (.int 0)), (.c (.str [97, 115, 99]))])])]),
    .asg (.nm 9) (.tup [(.c (.int 1)), (.tup [(.tup [(.c (.str [110, 117, 109, 98, 101, 114])), (.c (.int 0)), (.c (.str [97, 115, 99]))])])]),
    .iff (.or [(.call F_is_spec [(.tup [(.c (.int 1)), (.tup [(.tup [(.c (.str [110, 117, 109, 98, 101, 114])), (.c (.int 1)), (.c (.str [97, 115, 99]))])])])]), (.op .ne (.call F_compare [(.v 6), (.tup [(.v 3)]), (.tup [(.v 2)])]) (.c (.int 1)))]) [.ret (.c (.bl false))] [],
    .iff (.op .ne (.call F_combined [(.tup [(.c (.int 1)), (.tup [])]), (.v 6)]) (.v 6)) [.ret (.c (.bl false))] [],
    .iff (.op .ne (.call F_reversed_spec [(.v 6)]) (.tup [(.c (.int 1)), (.tup [(.tup [(.c (.str [110, 117, 109, 98, 101, 114])), (.c (.int 0)), (.c (.str [100, 101, 115, 99]))]), (.tup [(.c (.str [115, 112, 101, 108, 108, 105, 110, 103])), (.c (.int 0)), (.c (.str [100, 101, 115, 99]))])])])) [.ret (.c (.bl false))] [],
    .iff (.not (.call F_is_consistent [(.v 8)])) [.ret (.c (.bl false))] [],
    .iff (.or [(.op .ne (.call F_law_size [(.call F_violation [(.v 9)])]) (.c (.int 2))), (.op .ne (.call F_repair [(.v 9)]) (.tup [(.c (.int 0))]))]) [.ret (.c (.bl false))] [],
    .iff (.op .ne (.call F_law_size [(.call F_difference [(.v 6), (.call F_reversed_spec [(.v 6)])])]) (.c (.int 2))) [.ret (.c (.bl false))] [],
    .iff (.op .ne (.call F_redundant [(.tup [(.c (.int 1)), (.tup [(.tup [(.c (.str [116, 101, 120, 116])), (.c (.int 0)), (.c (.str [97, 115, 99]))]), (.tup [(.c (.str [108, 101, 110, 103, 116, 104])), (.c (.int 0)), (.c (.str [97, 115, 99]))])])])]) (.lst 0 [(.c (.int 1))])) [.ret (.c (.bl false))] [],
    .iff (.op .isnot (.call F_not_refined [(.v 8), (.v 9)]) (.c (.non))) [.ret (.c (.bl false))] [],
    .iff (.op .ne (.call F_sort [(.v 8), (.lst 0 [(.tup [(.v 5)]), (.tup [(.v 3)]), (.tup [(.c (.non))]), (.tup [(.v 2)])])]) (.lst 0 [(.tup [(.c (.non))]), (.tup [(.v 2)]), (.tup [(.v 3)]), (.tup [(.v 5)])])) [.ret (.c (.bl false))] [],
    .iff (.call F_is_sorted [(.v 8), (.lst 0 [(.tup [(.v 3)]), (.tup [(.v 2)])])]) [.ret (.c (.bl false))] [],
    .iff (.op .ne (.call F_insert [(.v 8), (.lst 0 [(.tup [(.v 2)]), (.tup [(.v 4)])]), (.tup [(.v 3)])]) (.lst 0 [(.tup [(.v 2)]), (.tup [(.v 3)]), (.tup [(.v 4)])])) [.ret (.c (.bl false))] [],
    .iff (.op .ne (.call F_merge [(.v 8), (.lst 0 [(.tup [(.v 2)])]), (.lst 0 [(.tup [(.c (.non))]), (.tup [(.v 3)])])]) (.lst 0 [(.tup [(.c (.non))]), (.tup [(.v 2)]), (.tup [(.v 3)])])) [.ret (.c (.bl false))] [],
    .ret (.call F_law_rest [(.v 8), (.v 6), (.v 2), (.v 3), (.v 4), (.v 5)])]
def fn_law_k19 : Fn := ⟨1, 10, b_law_k19⟩
def b_law_far : List Sm :=
  [.ret (.ife (.op .is_ (.v 0) (.c (.non))) (.c (.int 999)) (.call F_law_size [(.v 0)]))]
def fn_law_far : Fn := ⟨1, 1, b_law_far⟩
def b_law_near_v2 : List Sm :=
  [.asg (.nm 3) (.call F_law_draw [(.v 0), (.v 1), (.c (.int 4))]),
    .iff (.op .eq (.v 3) (.c (.int 0))) [.ret (.tup [(.op .ix (.v 2) (.c (.int 0))), (.slice (.op .ix (.v 2) (.c (.int 1))) none (some (.un .neg (.c (.int 1)))))])] [],
    .iff (.and [(.op .eq (.v 3) (.c (.int 1))), (.op .lt (.bi .len [(.op .ix (.v 2) (.c (.int 1)))]) (.c (.int 6)))]) [.ret (.tup [(.op .ix (.v 2) (.c (.int 0))), (.op .add (.op .ix (.v 2) (.c (.int 1))) (.tup [(.call F_law_step [(.v 0), (.v 1), (.op .ix (.v 2) (.c (.int 0)))])]))])] [],
    .iff (.op .eq (.v 3) (.c (.int 2))) [.ret (.call F_reversed_spec [(.v 2)])] [],
    .ret (.call F_law_spec [(.v 0), (.v 1), (.op .ix (.v 2) (.c (.int 0))), (.c (.int 3))])]
def fn_law_near_v2 : Fn := ⟨3, 4, b_law_near_v2⟩
def b_law_k20 : List Sm :=
  [.asg (.nm 1) (.lst 1 [(.c (.int 0)), (.c (.int 0))]),
    .asg (.nm 2) (.call F_law_pick [(.v 0), (.v 1), (.lst 0 [(.call F_law_spec [(.v 0), (.v 1), (.c (.int 1)), (.c (.int 4))]), (.call F_law_order [(.v 0), (.v 1), (.c (.int 1))])])]),
    .asg (.nm 3) (.call F_law_near_v2 [(.v 0), (.v 1), (.v 2)]),
    .asg (.nm 4) (.call F_law_near_v2 [(.v 0), (.v 1), (.v 3)]),
    .asg (.nm 5) (.tup [(.tup [(.v 2), (.v 3)]), (.tup [(.v 3), (.v 4)]), (.tup [(.v 2), (.v 4)])]),
    .asg (.nm 6) (.sorted (.comp 0 (.tup [(.nm 7), (.nm 8)]) (.seq (.v 5)) none (.call F_law_far [(.call F_difference [(.v 7), (.v 8)])]))),
    .iff (.op .ne (.op .ix (.v 6) (.c (.int 0))) (.op .ix (.v 6) (.c (.int 1)))) [.ret (.c (.bl false))] [],
    .for_ (.tup [(.nm 7), (.nm 8)]) (.seq (.v 5)) [.asg (.nm 9) (.call F_not_refined [(.v 7), (.v 8)]),
      .iff (.op .lt (.call F_law_far [(.v 9)]) (.call F_law_far [(.call F_difference [(.v 7), (.v 8)])])) [.ret (.c (.bl false))] [],
      .iff (.and [(.op .isnot (.v 9) (.c (.non))), (.op .eq (.call F_law_compare [(.op .ix (.v 8) (.c (.int 1))), (.op .ix (.v 9) (.c (.int 0))), (.op .ix (.v 9) (.c (.int 1)))]) (.c (.int 0)))]) [.ret (.c (.bl false))] []],
    .iff (.and [(.op .is_ (.call F_not_refined [(.v 2), (.v 3)]) (.c (.non))), (.op .is_ (.call F_not_refined [(.v 3), (.v 4)]) (.c (.non))), (.op .isnot (.call F_not_refined [(.v 2), (.v 4)]) (.c (.non)))]) [.ret (.c (.bl false))] [],
    .iff (.op .le (.op .add (.bi .len [(.op .ix (.v 2) (.c (.int 1)))]) (.bi .len [(.op .ix (.v 4) (.c (.int 1)))])) (.c (.int 6))) [.iff (.op .isnot (.call F_not_refined [(.call F_combined [(.v 4), (.v 2)]), (.v 4)]) (.c (.non))) [.ret (.c (.bl false))] []] [],
    .ret (.and [(.op .is_ (.call F_not_refined [(.v 2), (.v 2)]) (.c (.non))), (.op .is_ (.call F_difference [(.v 2), (.v 2)]) (.c (.non)))])]
def fn_law_k20 : Fn := ⟨1, 10, b_law_k20⟩
def b_law_twice : List Sm :=
  [.asg (.nm 3) (.comp 0 (.nm 4) (.seq (.v 1)) (some (.op .le (.call F_law_compare [(.op .ix (.v 0) (.c (.int 1))), (.v 4), (.v 2)]) (.c (.int 0)))) (.v 4)),
    .ret (.op .add (.v 3) (.comp 0 (.nm 4) (.seq (.v 1)) (some (.op .ge (.call F_law_compare [(.op .ix (.v 0) (.c (.int 1))), (.v 4), (.v 2)]) (.c (.int 0)))) (.v 4)))]
def fn_law_twice : Fn := ⟨3, 5, b_law_twice⟩
def b_law_sorted_v2 : List Sm :=
  [.asg (.nm 2) (.lst 1 []),
    .for_ (.nm 3) (.seq (.v 1)) [.asg (.nm 4) (.bi .len [(.comp 0 (.nm 5) (.seq (.v 2)) (some (.op .le (.call F_law_compare [(.op .ix (.v 0) (.c (.int 1))), (.v 5), (.v 3)]) (.c (.int 0)))) (.v 5))]),
      .ex (.meth .insert (.v 2) [(.v 4), (.v 3)])],
    .retF 2]
def fn_law_sorted_v2 : Fn := ⟨2, 6, b_law_sorted_v2⟩
def b_law_k21 : List Sm :=
  [.asg (.nm 1) (.lst 1 [(.c (.int 0)), (.c (.int 0))]),
    .asg (.nm 2) (.c (.int 1)),
    .asg (.nm 3) (.call F_law_order [(.v 0), (.v 1), (.v 2)]),
    .asg (.nm 4) (.lst 1 []),
    .for_ (.nm 5) (.range1 (.c (.int 3))) [.asg (.nm 16) (.call F_law_draw [(.v 0), (.v 1), (.c (.int 6))]),
      .ex (.meth .append (.v 4) [(.call F_law_sorted_v2 [(.v 3), (.comp 0 (.nm 17) (.range1 (.v 16)) none (.call F_law_record [(.v 0), (.v 1), (.v 2)]))])])],
    .asg (.tup [(.nm 6), (.nm 7), (.nm 8)]) (.v 4),
    .asg (.nm 9) (.call F_merge [(.v 3), (.call F_merge [(.v 3), (.v 6), (.v 7)]), (.v 8)]),
    .iff (.op .ne (.call F_merge [(.v 3), (.v 6), (.call F_merge [(.v 3), (.v 7), (.v 8)])]) (.v 9)) [.ret (.c (.bl false))] [],
    .iff (.op .ne (.call F_law_sorted_v2 [(.v 3), (.op .add (.op .add (.v 6) (.v 7)) (.v 8))]) (.v 9)) [.ret (.c (.bl false))] [],
    .asg (.nm 10) (.call F_law_record [(.v 0), (.v 1), (.v 2)]),
    .iff (.op .ne (.call F_insert [(.v 3), (.v 9), (.v 10)]) (.call F_merge [(.v 3), (.v 9), (.lst 0 [(.v 10)])])) [.ret (.c (.bl false))] [],
    .iff (.op .ne (.un .cat (.call F_groups [(.v 3), (.v 9)])) (.v 9)) [.ret (.c (.bl false))] [],
    .asg (.nm 11) (.make F_SortedList_make (.v 3)),
    .for_ (.nm 12) (.seq (.op .add (.op .add (.v 6) (.v 7)) (.v 8))) [.ex (.mcall F_SortedList_add (.v 11) [(.v 12)])],
    .iff (.op .ne (.mcall F_SortedList_records (.v 11) []) (.v 9)) [.ret (.c (.bl false))] [],
    .iff (.op .eq (.v 9) (.lst 0 [])) [.ret (.op .eq (.mcall F_SortedList_between (.v 11) [(.v 10), (.v 10)]) (.lst 0 []))] [],
    .par [13, 14] [(.op .ix (.v 9) (.c (.int 0))), (.op .ix (.v 9) (.un .neg (.c (.int 1))))],
    .asg (.nm 15) (.op .add (.mcall F_SortedList_between (.v 11) [(.v 13), (.v 10)]) (.mcall F_SortedList_between (.v 11) [(.v 10), (.v 14)])),
    .ret (.and [(.op .eq (.mcall F_SortedList_between (.v 11) [(.v 13), (.v 14)]) (.v 9)), (.op .eq (.v 15) (.call F_law_twice [(.v 3), (.v 9), (.v 10)]))])]
def fn_law_k21 : Fn := ⟨1, 18, b_law_k21⟩
def b_law_k22 : List Sm :=
  [.asg (.nm 1) (.lst 1 [(.c (.int 0)), (.c (.int 0))]),
    .asg (.nm 2) (.op .add (.c (.int 1)) (.op .fdiv (.call F_law_draw [(.v 0), (.v 1), (.c (.int 4))]) (.c (.int 3)))),
    .asg (.nm 3) (.call F_law_spec [(.v 0), (.v 1), (.v 2), (.c (.int 3))]),
    .par [4, 5] [(.op .ix (.v 3) (.c (.int 1))), (.call F_law_draw [(.v 0), (.v 1), (.v 2)])],
    .asg (.nm 6) (.tup [(.c (.str [110, 117, 109, 98, 101, 114])), (.v 5), (.call F_law_pick [(.v 0), (.v 1), (.lst 0 [(.c (.str [97, 115, 99])), (.c (.str [100, 101, 115, 99]))])])]),
    .asg (.nm 7) (.tup [(.call F_law_pick [(.v 0), (.v 1), (.lst 0 [(.c (.str [116, 101, 120, 116])), (.c (.str [108, 101, 110, 103, 116, 104]))])]), (.v 5), (.call F_law_pick [(.v 0), (.v 1), (.lst 0 [(.c (.str [97, 115, 99])), (.c (.str [100, 101, 115, 99]))])])]),
    .par [8, 9] [(.tup [(.v 2), (.op .add (.v 4) (.tup [(.v 6), (.v 7)]))]), (.tup [(.v 2), (.op .add (.v 4) (.tup [(.v 7), (.v 6)]))])],
    .iff (.or [(.op .isnot (.call F_difference [(.v 8), (.v 9)]) (.c (.non))), (.op .ne (.call F_is_consistent [(.v 8)]) (.call F_is_consistent [(.v 9)]))]) [.ret (.c (.bl false))] [],
    .asg (.nm 10) (.tup [(.op .ix (.v 6) (.c (.int 0))), (.v 5), (.ife (.op .eq (.op .ix (.v 6) (.c (.int 2))) (.c (.str [100, 101, 115, 99]))) (.c (.str [97, 115, 99])) (.c (.str [100, 101, 115, 99])))]),
    .asg (.nm 11) (.tup [(.v 2), (.op .add (.op .add (.tup [(.v 6)]) (.v 4)) (.tup [(.call F_law_pick [(.v 0), (.v 1), (.lst 0 [(.v 6), (.v 10)])])]))]),
    .iff (.or [(.op .notin (.op .sub (.bi .len [(.op .ix (.v 11) (.c (.int 1)))]) (.c (.int 1))) (.call F_redundant [(.v 11)])), (.op .isnot (.call F_difference [(.v 11), (.tup [(.v 2), (.slice (.op .ix (.v 11) (.c (.int 1))) none (some (.un .neg (.c (.int 1)))))])]) (.c (.non)))]) [.ret (.c (.bl false))] [],
    .for_ (.nm 12) (.range1 (.c (.int 4))) [.par [14, 15] [(.call F_law_record [(.v 0), (.v 1), (.v 2)]), (.call F_law_record [(.v 0), (.v 1), (.v 2)])],
      .iff (.op .ne (.call F_compare [(.v 8), (.v 14), (.v 15)]) (.call F_compare [(.v 9), (.v 14), (.v 15)])) [.ret (.c (.bl false))] [],
      .iff (.op .ne (.call F_compare [(.v 11), (.v 14), (.v 15)]) (.call F_law_compare [(.op .ix (.v 11) (.c (.int 1))), (.v 14), (.v 15)])) [.ret (.c (.bl false))] []],
    .asg (.nm 13) (.call F_reversed_spec [(.call F_reversed_spec [(.v 3)])]),
    .ret (.and [(.op .is_ (.call F_difference [(.v 3), (.v 13)]) (.c (.non))), (.op .eq (.call F_is_consistent [(.v 13)]) (.call F_is_consistent [(.v 3)]))])]
def fn_law_k22 : Fn := ⟨1, 16, b_law_k22⟩
def b_law_sorted_v3 : List Sm :=
  [.asg (.nm 2) (.lst 0 []),
    .for_ (.nm 3) (.seq (.v 1)) [.asg (.nm 4) (.bi .len [(.comp 0 (.nm 5) (.seq (.v 2)) (some (.op .le (.call F_law_compare [(.v 0), (.v 5), (.v 3)]) (.c (.int 0)))) (.v 5))]),
      .asg (.nm 2) (.op .add (.op .add (.slice (.v 2) none (some (.v 4))) (.lst 0 [(.v 3)])) (.slice (.v 2) (some (.v 4)) none))],
    .ret (.v 2)]
def fn_law_sorted_v3 : Fn := ⟨2, 6, b_law_sorted_v3⟩
def b_law_k23 : List Sm :=
  [.asg (.nm 1) (.lst 1 [(.c (.int 0)), (.c (.int 0))]),
    .asg (.nm 2) (.c (.int 1)),
    .par [3, 4] [(.call F_law_order [(.v 0), (.v 1), (.v 2)]), (.lst 1 [])],
    .par [5, 6] [(.make F_SortedList_make (.v 3)), (.make F_SortedList_make (.call F_reversed_spec [(.v 3)]))],
    .for_ (.nm 7) (.range1 (.call F_law_draw [(.v 0), (.v 1), (.c (.int 13))])) [.ex (.meth .append (.v 4) [(.call F_law_record [(.v 0), (.v 1), (.v 2)])]),
      .ex (.mcall F_SortedList_add (.v 5) [(.op .ix (.v 4) (.un .neg (.c (.int 1))))]),
      .ex (.mcall F_SortedList_add (.v 6) [(.op .ix (.v 4) (.un .neg (.c (.int 1))))])],
    .fz 4,
    .asg (.nm 8) (.call F_law_sorted_v3 [(.op .ix (.v 3) (.c (.int 1))), (.v 4)]),
    .iff (.or [(.op .ne (.mcall F_SortedList_records (.v 5) []) (.v 8)), (.op .ne (.mcall F_SortedList_records (.v 6) []) (.un .cat (.rev (.call F_groups [(.v 3), (.v 4)]))))]) [.ret (.c (.bl false))] [],
    .iff (.and [(.op .ne (.v 4) (.lst 0 [])), (.op .ne (.mcall F_SortedList_between (.v 5) [(.op .ix (.v 8) (.c (.int 0))), (.op .ix (.v 8) (.un .neg (.c (.int 1))))]) (.v 8))]) [.ret (.c (.bl false))] [],
    .asg (.nm 9) (.call F_law_sorted_v3 [(.op .ix (.v 3) (.c (.int 1))), (.comp 0 (.nm 7) (.range1 (.c (.int 3))) none (.call F_law_record [(.v 0), (.v 1), (.v 2)]))]),
    .asg (.tup [(.nm 10), (.nm 11), (.nm 12)]) (.v 9),
    .par [13, 14] [(.mcall F_SortedList_between (.v 5) [(.v 10), (.v 11)]), (.mcall F_SortedList_between (.v 5) [(.v 11), (.v 12)])],
    .asg (.nm 15) (.mcall F_SortedList_between (.v 5) [(.v 11), (.v 11)]),
    .iff (.op .ne (.v 15) (.comp 0 (.nm 17) (.seq (.v 8)) (some (.op .eq (.call F_compare [(.v 3), (.v 17), (.v 11)]) (.c (.int 0)))) (.v 17))) [.ret (.c (.bl false))] [],
    .iff (.op .ne (.op .add (.slice (.v 13) none (some (.op .sub (.bi .len [(.v 13)]) (.bi .len [(.v 15)])))) (.v 14)) (.mcall F_SortedList_between (.v 5) [(.v 10), (.v 12)])) [.ret (.c (.bl false))] [],
    .iff (.op .ne (.slice (.v 13) (some (.op .sub (.bi .len [(.v 13)]) (.bi .len [(.v 15)]))) none) (.v 15)) [.ret (.c (.bl false))] [],
    .asg (.nm 16) (.mcall F_SortedList_between (.v 6) [(.v 12), (.v 10)]),
    .iff (.op .ne (.call F_law_sorted_v3 [(.op .ix (.v 3) (.c (.int 1))), (.v 16)]) (.mcall F_SortedList_between (.v 5) [(.v 10), (.v 12)])) [.ret (.c (.bl false))] [],
    .iff (.op .ne (.bi .len [(.v 16)]) (.bi .len [(.mcall F_SortedList_between (.v 5) [(.v 10), (.v 12)])])) [.ret (.c (.bl false))] [],
    .iff (.not (.op .ge (.call F_law_compare [(.op .ix (.v 3) (.c (.int 1))), (.v 12), (.v 10)]) (.c (.int 0)))) [.ret (.c (.bl false))] [],
    .ret (.or [(.op .eq (.mcall F_SortedList_between (.v 5) [(.v 12), (.v 10)]) (.lst 0 [])), (.op .eq (.call F_law_compare [(.op .ix (.v 3) (.c (.int 1))), (.v 10), (.v 12)]) (.c (.int 0)))])]
def fn_law_k23 : Fn := ⟨1, 18, b_law_k23⟩
def fn_SortedList_make : Fn := ⟨1, 1, [.mkS F_SortedListX_initX]⟩
def tbl : List (Option Fn) := [some fn_kind_of,
  some fn_spelling_of,
  some fn_is_record,
  some fn_are_groups,
  some fn_is_step,
  some fn_is_width,
  some fn_is_spec,
  some fn_need_spec,
  some fn_need_record,
  some fn_need_pair,
  some fn_sign,
  some fn_rank,
  some fn_step_result,
  some fn_compared,
  some fn_compare,
  some fn_reversed_step,
  some fn_reversed_spec,
  some fn_combined,
  some fn_law_draw,
  some fn_law_pick,
  some fn_law_groups,
  some fn_law_step,
  some fn_law_spec,
  some fn_law_order,
  some fn_law_value,
  some fn_law_record,
  some fn_law_kind,
  some fn_law_sign,
  some fn_law_result,
  some fn_law_compare,
  some fn_law_size,
  some fn_law_k01,
  none,
  some fn_law_ask,
  some fn_law_invalid,
  some fn_law_k02,
  some fn_size_of,
  some fn_field_steps,
  some fn_triple_profiles,
  some fn_results,
  some fn_combinations,
  some fn_first_part,
  some fn_as_records,
  some fn_violation_in,
  some fn_smallest_violation,
  some fn_violation,
  some fn_is_consistent,
  some fn_law_values,
  some fn_law_known,
  some fn_law_k03,
  some fn_law_k04,
  some fn_without,
  some fn_choices,
  some fn_projected,
  some fn_is_repair,
  some fn_repair,
  some fn_law_k05,
  some fn_pair_profiles,
  some fn_smallest_pair,
  some fn_differ,
  some fn_contradicts,
  some fn_difference,
  some fn_not_refined,
  some fn_law_near,
  some fn_law_k06,
  some fn_redundant,
  some fn_law_k07,
  some fn_are_records,
  some fn_need_records,
  some fn_need_consistent,
  some fn_ascends,
  some fn_need_sorted,
  some fn_merged,
  some fn_sorted_by,
  some fn_need_sortable,
  some fn_sort,
  some fn_is_sorted,
  some fn_place_for,
  some fn_insert,
  some fn_merge,
  some fn_groups,
  some fn_law_sorted,
  some fn_law_rises,
  some fn_law_k08,
  some fn_law_ask_v2,
  some fn_law_k09,
  some fn_SortedListX_initX,
  some fn_SortedList_add,
  some fn_SortedList_remove,
  some fn_SortedList_records,
  some fn_SortedList_between,
  some fn_SortedList_copy,
  some fn_SortedListX_lenX,
  some fn_law_do,
  some fn_law_k10,
  none,
  some fn_SortedList_copy_v2,
  some fn_law_made,
  some fn_law_k11,
  some fn_step_line,
  some fn_formatted,
  some fn_format_spec,
  some fn_digit,
  some fn_parsed_step,
  some fn_parse_spec,
  some fn_law_lines,
  some fn_law_ask_v3,
  some fn_law_k12,
  some fn_law_k13,
  some fn_law_exchanged,
  some fn_law_total,
  some fn_law_k14,
  some fn_law_k15,
  some fn_SortedList_remove_v2,
  some fn_SortedList_between_v2,
  some fn_SortedList_copy_v3,
  some fn_law_bags,
  some fn_law_k16,
  some fn_law_large,
  some fn_law_k17,
  some fn_law_any_step,
  some fn_law_k18,
  some fn_SortedList_copy_v4,
  some fn_law_rest,
  some fn_law_k19,
  some fn_law_far,
  some fn_law_near_v2,
  some fn_law_k20,
  some fn_law_twice,
  some fn_law_sorted_v2,
  some fn_law_k21,
  some fn_law_k22,
  some fn_law_sorted_v3,
  some fn_law_k23,
  some fn_SortedList_make]
def FT (f : Nat) : Option Fn := match tbl[f]? with
  | some x => x
  | none => none
end G

set_option Elab.async false
set_option linter.all false
set_option maxRecDepth 100000
set_option maxHeartbeats 0
namespace LK02
open PySem PySem.Spec PyProof.Rows L2 G
def top (i : Nat) : Stmt := PySem.Challenge.pw_sortspec_k02_spec_errors.main.body.getD i (.Pass ⟨0, 0, 0, 0⟩)
def d_kind_of : He.DefD := ⟨("kind_of", none), "kind_of", "kind_of", defArgs (top 15), defBody (top 15), defScope (top 15), [], []⟩
def n_kind_of : List PySem.Str := ["value", "char"]
def d_spelling_of : He.DefD := ⟨("spelling_of", none), "spelling_of", "spelling_of", defArgs (top 16), defBody (top 16), defScope (top 16), [], []⟩
def n_spelling_of : List PySem.Str := ["value"]
def d_is_record : He.DefD := ⟨("is_record", none), "is_record", "is_record", defArgs (top 17), defBody (top 17), defScope (top 17), [], []⟩
def n_is_record : List PySem.Str := ["value", "width", "one"]
def d_are_groups : He.DefD := ⟨("are_groups", none), "are_groups", "are_groups", defArgs (top 22), defBody (top 22), defScope (top 22), [], []⟩
def n_are_groups : List PySem.Str := ["value", "kinds", "group", "kind"]
def d_is_step : He.DefD := ⟨("is_step", none), "is_step", "is_step", defArgs (top 23), defBody (top 23), defScope (top 23), [], []⟩
def n_is_step : List PySem.Str := ["value", "width", "name", "field", "argument"]
def d_is_width : He.DefD := ⟨("is_width", none), "is_width", "is_width", defArgs (top 24), defBody (top 24), defScope (top 24), [], []⟩
def n_is_width : List PySem.Str := ["value"]
def d_is_spec : He.DefD := ⟨("is_spec", none), "is_spec", "is_spec", defArgs (top 25), defBody (top 25), defScope (top 25), [], []⟩
def n_is_spec : List PySem.Str := ["value", "step"]
def d_need_spec : He.DefD := ⟨("need_spec", none), "need_spec", "need_spec", defArgs (top 26), defBody (top 26), defScope (top 26), [], []⟩
def n_need_spec : List PySem.Str := ["value"]
def d_need_record : He.DefD := ⟨("need_record", none), "need_record", "need_record", defArgs (top 27), defBody (top 27), defScope (top 27), [], []⟩
def n_need_record : List PySem.Str := ["spec", "value"]
def d_need_pair : He.DefD := ⟨("need_pair", none), "need_pair", "need_pair", defArgs (top 28), defBody (top 28), defScope (top 28), [], []⟩
def n_need_pair : List PySem.Str := ["spec", "other"]
def d_sign : He.DefD := ⟨("sign", none), "sign", "sign", defArgs (top 29), defBody (top 29), defScope (top 29), [], []⟩
def n_sign : List PySem.Str := ["one", "other"]
def d_rank : He.DefD := ⟨("rank", none), "rank", "rank", defArgs (top 30), defBody (top 30), defScope (top 30), [], []⟩
def n_rank : List PySem.Str := ["groups", "kind", "group"]
def d_step_result : He.DefD := ⟨("step_result", none), "step_result", "step_result", defArgs (top 31), defBody (top 31), defScope (top 31), [], []⟩
def n_step_result : List PySem.Str := ["step", "one", "other", "name", "field", "argument", "kinds", "result"]
def d_compared : He.DefD := ⟨("compared", none), "compared", "compared", defArgs (top 32), defBody (top 32), defScope (top 32), [], []⟩
def n_compared : List PySem.Str := ["steps", "one", "other", "step", "result"]
def d_compare : He.DefD := ⟨("compare", none), "compare", "compare", defArgs (top 33), defBody (top 33), defScope (top 33), [], []⟩
def n_compare : List PySem.Str := ["spec", "a", "b"]
def d_reversed_step : He.DefD := ⟨("reversed_step", none), "reversed_step", "reversed_step", defArgs (top 34), defBody (top 34), defScope (top 34), [], []⟩
def n_reversed_step : List PySem.Str := ["step", "name", "field", "argument"]
def d_reversed_spec : He.DefD := ⟨("reversed_spec", none), "reversed_spec", "reversed_spec", defArgs (top 35), defBody (top 35), defScope (top 35), [], []⟩
def n_reversed_spec : List PySem.Str := ["spec", "step"]
def d_combined : He.DefD := ⟨("combined", none), "combined", "combined", defArgs (top 36), defBody (top 36), defScope (top 36), [], []⟩
def n_combined : List PySem.Str := ["spec", "other", "steps"]
def d__law_draw : He.DefD := ⟨("_law_draw", none), "_law_draw", "_law_draw", defArgs (top 38), defBody (top 38), defScope (top 38), [], []⟩
def n__law_draw : List PySem.Str := ["script", "town", "many", "at", "mixed", "one"]
def d__law_pick : He.DefD := ⟨("_law_pick", none), "_law_pick", "_law_pick", defArgs (top 39), defBody (top 39), defScope (top 39), [], []⟩
def n__law_pick : List PySem.Str := ["script", "town", "some"]
def d__law_groups : He.DefD := ⟨("_law_groups", none), "_law_groups", "_law_groups", defArgs (top 40), defBody (top 40), defScope (top 40), [], []⟩
def n__law_groups : List PySem.Str := ["script", "town", "kinds", "parts", "group"]
def d__law_step : He.DefD := ⟨("_law_step", none), "_law_step", "_law_step", defArgs (top 41), defBody (top 41), defScope (top 41), [], []⟩
def n__law_step : List PySem.Str := ["script", "town", "width", "name", "argument"]
def d__law_spec : He.DefD := ⟨("_law_spec", none), "_law_spec", "_law_spec", defArgs (top 42), defBody (top 42), defScope (top 42), [], []⟩
def n__law_spec : List PySem.Str := ["script", "town", "width", "most", "k"]
def d__law_order : He.DefD := ⟨("_law_order", none), "_law_order", "_law_order", defArgs (top 43), defBody (top 43), defScope (top 43), [], []⟩
def n__law_order : List PySem.Str := ["script", "town", "width", "steps", "field", "kinds", "first_step", "ways", "first", "name", "kind"]
def d__law_value : He.DefD := ⟨("_law_value", none), "_law_value", "_law_value", defArgs (top 44), defBody (top 44), defScope (top 44), [], []⟩
def n__law_value : List PySem.Str := ["script", "town", "numbers", "texts"]
def d__law_record : He.DefD := ⟨("_law_record", none), "_law_record", "_law_record", defArgs (top 45), defBody (top 45), defScope (top 45), [], []⟩
def n__law_record : List PySem.Str := ["script", "town", "width", "k"]
def d__law_ask : He.DefD := ⟨("_law_ask", none), "_law_ask", "_law_ask", defArgs (top 47), defBody (top 47), defScope (top 47), [], []⟩
def n__law_ask : List PySem.Str := ["what", "one", "other", "third", "error"]
def d__law_invalid : He.DefD := ⟨("_law_invalid", none), "_law_invalid", "_law_invalid", defArgs (top 48), defBody (top 48), defScope (top 48), [], []⟩
def n__law_invalid : List PySem.Str := ["good", "ranks", "bad", "kinds", "step", "argument", "parts"]
def d_law : He.DefD := ⟨("law", none), "law", "law", defArgs (top 49), defBody (top 49), defScope (top 49), [], []⟩
def n_law : List PySem.Str := ["script", "town", "width", "spec", "record", "bad", "wide", "rest", "value", "large"]
def d__law_which : He.DefD := ⟨("_law_which", none), "_law_which", "_law_which", defArgs (top 46), defBody (top 46), defScope (top 46), [], []⟩
def fn : List He.DefD := [d_kind_of, d_spelling_of, d_is_record, d_are_groups, d_is_step, d_is_width, d_is_spec, d_need_spec, d_need_record, d_need_pair, d_sign, d_rank, d_step_result, d_compared, d_compare, d_reversed_step, d_reversed_spec, d_combined, d__law_draw, d__law_pick, d__law_groups, d__law_step, d__law_spec, d__law_order, d__law_value, d__law_record, d__law_ask, d__law_invalid, d_law, d__law_which]
def T : Tab := ⟨[(0, "LETTERS", c_LETTERS), (1, "LARGEST", c_LARGEST), (2, "LETTERS_MOST", c_LETTERS_MOST), (3, "STEPS", c_STEPS), (4, "KINDS", c_KINDS), (5, "NAMES", c_NAMES)],
  [(F_kind_of, PySem.Str.ofString "kind_of"), (F_spelling_of, PySem.Str.ofString "spelling_of"), (F_is_record, PySem.Str.ofString "is_record"), (F_are_groups, PySem.Str.ofString "are_groups"), (F_is_step, PySem.Str.ofString "is_step"), (F_is_width, PySem.Str.ofString "is_width"), (F_is_spec, PySem.Str.ofString "is_spec"), (F_need_spec, PySem.Str.ofString "need_spec"), (F_need_record, PySem.Str.ofString "need_record"), (F_need_pair, PySem.Str.ofString "need_pair"), (F_sign, PySem.Str.ofString "sign"), (F_rank, PySem.Str.ofString "rank"), (F_step_result, PySem.Str.ofString "step_result"), (F_compared, PySem.Str.ofString "compared"), (F_compare, PySem.Str.ofString "compare"), (F_reversed_step, PySem.Str.ofString "reversed_step"), (F_reversed_spec, PySem.Str.ofString "reversed_spec"), (F_combined, PySem.Str.ofString "combined"), (F_law_draw, PySem.Str.ofString "_law_draw"), (F_law_pick, PySem.Str.ofString "_law_pick"), (F_law_groups, PySem.Str.ofString "_law_groups"), (F_law_step, PySem.Str.ofString "_law_step"), (F_law_spec, PySem.Str.ofString "_law_spec"), (F_law_order, PySem.Str.ofString "_law_order"), (F_law_value, PySem.Str.ofString "_law_value"), (F_law_record, PySem.Str.ofString "_law_record"), (F_law_ask, PySem.Str.ofString "_law_ask"), (F_law_invalid, PySem.Str.ofString "_law_invalid"), (F_law_k02, PySem.Str.ofString "law")],
  [(X_InvalidSpec, "InvalidSpec"), (X_InvalidRecord, "InvalidRecord"), (X_InvalidList, "InvalidList"), (X_Incomparable, "Incomparable"), (X_TooLong, "TooLong"), (X_Inconsistent, "Inconsistent"), (X_Unsorted, "Unsorted"), (X_NotFound, "NotFound"), (X_InvalidFormat, "InvalidFormat")],
  [],
  false, [], [], true⟩
theorem kfs {K : PySem.W.Frag} (c : He.SaysD (faL T) fn K) : ∀ f s, (f, s) ∈ T.k → (f, s) ∈ T.f ∧ KFact K s := fun f s hs => by simp [T] at hs
theorem ff_kind_of {K : PySem.W.Frag} (c : He.SaysD (faL T) fn K) : FnFact K T FT F_kind_of "kind_of" := by
  obtain ⟨fd, F⟩ := c.def_ 0 (d := d_kind_of) rfl
  exact ⟨fn_kind_of, _, _, _, _, fd, n_kind_of, n_kind_of.take 1, rfl, rfl, F, ⟨rfl, rfl, rfl, by decide +kernel, rfl, by decide +kernel, by decide +kernel⟩, rfl, rfl, F.bindsN fun _ _ _ _ _ _ us hl => match us, hl with | [_], _ => rfl, by decide +kernel⟩
theorem ff_spelling_of {K : PySem.W.Frag} (c : He.SaysD (faL T) fn K) : FnFact K T FT F_spelling_of "spelling_of" := by
  obtain ⟨fd, F⟩ := c.def_ 1 (d := d_spelling_of) rfl
  exact ⟨fn_spelling_of, _, _, _, _, fd, n_spelling_of, n_spelling_of.take 1, rfl, rfl, F, ⟨rfl, rfl, rfl, by decide +kernel, rfl, by decide +kernel, by decide +kernel⟩, rfl, rfl, F.bindsN fun _ _ _ _ _ _ us hl => match us, hl with | [_], _ => rfl, by decide +kernel⟩
theorem ff_is_record {K : PySem.W.Frag} (c : He.SaysD (faL T) fn K) : FnFact K T FT F_is_record "is_record" := by
  obtain ⟨fd, F⟩ := c.def_ 2 (d := d_is_record) rfl
  exact ⟨fn_is_record, _, _, _, _, fd, n_is_record, n_is_record.take 2, rfl, rfl, F, ⟨rfl, rfl, rfl, by decide +kernel, rfl, by decide +kernel, by decide +kernel⟩, rfl, rfl, F.bindsN fun _ _ _ _ _ _ us hl => match us, hl with | [_, _], _ => rfl, by decide +kernel⟩
theorem ff_are_groups {K : PySem.W.Frag} (c : He.SaysD (faL T) fn K) : FnFact K T FT F_are_groups "are_groups" := by
  obtain ⟨fd, F⟩ := c.def_ 3 (d := d_are_groups) rfl
  exact ⟨fn_are_groups, _, _, _, _, fd, n_are_groups, n_are_groups.take 1, rfl, rfl, F, ⟨rfl, rfl, rfl, by decide +kernel, rfl, by decide +kernel, by decide +kernel⟩, rfl, rfl, F.bindsN fun _ _ _ _ _ _ us hl => match us, hl with | [_], _ => rfl, by decide +kernel⟩
theorem ff_is_step {K : PySem.W.Frag} (c : He.SaysD (faL T) fn K) : FnFact K T FT F_is_step "is_step" := by
  obtain ⟨fd, F⟩ := c.def_ 4 (d := d_is_step) rfl
  exact ⟨fn_is_step, _, _, _, _, fd, n_is_step, n_is_step.take 2, rfl, rfl, F, ⟨rfl, rfl, rfl, by decide +kernel, rfl, by decide +kernel, by decide +kernel⟩, rfl, rfl, F.bindsN fun _ _ _ _ _ _ us hl => match us, hl with | [_, _], _ => rfl, by decide +kernel⟩
theorem ff_is_width {K : PySem.W.Frag} (c : He.SaysD (faL T) fn K) : FnFact K T FT F_is_width "is_width" := by
  obtain ⟨fd, F⟩ := c.def_ 5 (d := d_is_width) rfl
  exact ⟨fn_is_width, _, _, _, _, fd, n_is_width, n_is_width.take 1, rfl, rfl, F, ⟨rfl, rfl, rfl, by decide +kernel, rfl, by decide +kernel, by decide +kernel⟩, rfl, rfl, F.bindsN fun _ _ _ _ _ _ us hl => match us, hl with | [_], _ => rfl, by decide +kernel⟩
theorem ff_is_spec {K : PySem.W.Frag} (c : He.SaysD (faL T) fn K) : FnFact K T FT F_is_spec "is_spec" := by
  obtain ⟨fd, F⟩ := c.def_ 6 (d := d_is_spec) rfl
  exact ⟨fn_is_spec, _, _, _, _, fd, n_is_spec, n_is_spec.take 1, rfl, rfl, F, ⟨rfl, rfl, rfl, by decide +kernel, rfl, by decide +kernel, by decide +kernel⟩, rfl, rfl, F.bindsN fun _ _ _ _ _ _ us hl => match us, hl with | [_], _ => rfl, by decide +kernel⟩
theorem ff_need_spec {K : PySem.W.Frag} (c : He.SaysD (faL T) fn K) : FnFact K T FT F_need_spec "need_spec" := by
  obtain ⟨fd, F⟩ := c.def_ 7 (d := d_need_spec) rfl
  exact ⟨fn_need_spec, _, _, _, _, fd, n_need_spec, n_need_spec.take 1, rfl, rfl, F, ⟨rfl, rfl, rfl, by decide +kernel, rfl, by decide +kernel, by decide +kernel⟩, rfl, rfl, F.bindsN fun _ _ _ _ _ _ us hl => match us, hl with | [_], _ => rfl, by decide +kernel⟩
theorem ff_need_record {K : PySem.W.Frag} (c : He.SaysD (faL T) fn K) : FnFact K T FT F_need_record "need_record" := by
  obtain ⟨fd, F⟩ := c.def_ 8 (d := d_need_record) rfl
  exact ⟨fn_need_record, _, _, _, _, fd, n_need_record, n_need_record.take 2, rfl, rfl, F, ⟨rfl, rfl, rfl, by decide +kernel, rfl, by decide +kernel, by decide +kernel⟩, rfl, rfl, F.bindsN fun _ _ _ _ _ _ us hl => match us, hl with | [_, _], _ => rfl, by decide +kernel⟩
theorem ff_need_pair {K : PySem.W.Frag} (c : He.SaysD (faL T) fn K) : FnFact K T FT F_need_pair "need_pair" := by
  obtain ⟨fd, F⟩ := c.def_ 9 (d := d_need_pair) rfl
  exact ⟨fn_need_pair, _, _, _, _, fd, n_need_pair, n_need_pair.take 2, rfl, rfl, F, ⟨rfl, rfl, rfl, by decide +kernel, rfl, by decide +kernel, by decide +kernel⟩, rfl, rfl, F.bindsN fun _ _ _ _ _ _ us hl => match us, hl with | [_, _], _ => rfl, by decide +kernel⟩
theorem ff_sign {K : PySem.W.Frag} (c : He.SaysD (faL T) fn K) : FnFact K T FT F_sign "sign" := by
  obtain ⟨fd, F⟩ := c.def_ 10 (d := d_sign) rfl
  exact ⟨fn_sign, _, _, _, _, fd, n_sign, n_sign.take 2, rfl, rfl, F, ⟨rfl, rfl, rfl, by decide +kernel, rfl, by decide +kernel, by decide +kernel⟩, rfl, rfl, F.bindsN fun _ _ _ _ _ _ us hl => match us, hl with | [_, _], _ => rfl, by decide +kernel⟩
theorem ff_rank {K : PySem.W.Frag} (c : He.SaysD (faL T) fn K) : FnFact K T FT F_rank "rank" := by
  obtain ⟨fd, F⟩ := c.def_ 11 (d := d_rank) rfl
  exact ⟨fn_rank, _, _, _, _, fd, n_rank, n_rank.take 2, rfl, rfl, F, ⟨rfl, rfl, rfl, by decide +kernel, rfl, by decide +kernel, by decide +kernel⟩, rfl, rfl, F.bindsN fun _ _ _ _ _ _ us hl => match us, hl with | [_, _], _ => rfl, by decide +kernel⟩
theorem ff_step_result {K : PySem.W.Frag} (c : He.SaysD (faL T) fn K) : FnFact K T FT F_step_result "step_result" := by
  obtain ⟨fd, F⟩ := c.def_ 12 (d := d_step_result) rfl
  exact ⟨fn_step_result, _, _, _, _, fd, n_step_result, n_step_result.take 3, rfl, rfl, F, ⟨rfl, rfl, rfl, by decide +kernel, rfl, by decide +kernel, by decide +kernel⟩, rfl, rfl, F.bindsN fun _ _ _ _ _ _ us hl => match us, hl with | [_, _, _], _ => rfl, by decide +kernel⟩
theorem ff_compared {K : PySem.W.Frag} (c : He.SaysD (faL T) fn K) : FnFact K T FT F_compared "compared" := by
  obtain ⟨fd, F⟩ := c.def_ 13 (d := d_compared) rfl
  exact ⟨fn_compared, _, _, _, _, fd, n_compared, n_compared.take 3, rfl, rfl, F, ⟨rfl, rfl, rfl, by decide +kernel, rfl, by decide +kernel, by decide +kernel⟩, rfl, rfl, F.bindsN fun _ _ _ _ _ _ us hl => match us, hl with | [_, _, _], _ => rfl, by decide +kernel⟩
theorem ff_compare {K : PySem.W.Frag} (c : He.SaysD (faL T) fn K) : FnFact K T FT F_compare "compare" := by
  obtain ⟨fd, F⟩ := c.def_ 14 (d := d_compare) rfl
  exact ⟨fn_compare, _, _, _, _, fd, n_compare, n_compare.take 3, rfl, rfl, F, ⟨rfl, rfl, rfl, by decide +kernel, rfl, by decide +kernel, by decide +kernel⟩, rfl, rfl, F.bindsN fun _ _ _ _ _ _ us hl => match us, hl with | [_, _, _], _ => rfl, by decide +kernel⟩
theorem ff_reversed_step {K : PySem.W.Frag} (c : He.SaysD (faL T) fn K) : FnFact K T FT F_reversed_step "reversed_step" := by
  obtain ⟨fd, F⟩ := c.def_ 15 (d := d_reversed_step) rfl
  exact ⟨fn_reversed_step, _, _, _, _, fd, n_reversed_step, n_reversed_step.take 1, rfl, rfl, F, ⟨rfl, rfl, rfl, by decide +kernel, rfl, by decide +kernel, by decide +kernel⟩, rfl, rfl, F.bindsN fun _ _ _ _ _ _ us hl => match us, hl with | [_], _ => rfl, by decide +kernel⟩
theorem ff_reversed_spec {K : PySem.W.Frag} (c : He.SaysD (faL T) fn K) : FnFact K T FT F_reversed_spec "reversed_spec" := by
  obtain ⟨fd, F⟩ := c.def_ 16 (d := d_reversed_spec) rfl
  exact ⟨fn_reversed_spec, _, _, _, _, fd, n_reversed_spec, n_reversed_spec.take 1, rfl, rfl, F, ⟨rfl, rfl, rfl, by decide +kernel, rfl, by decide +kernel, by decide +kernel⟩, rfl, rfl, F.bindsN fun _ _ _ _ _ _ us hl => match us, hl with | [_], _ => rfl, by decide +kernel⟩
theorem ff_combined {K : PySem.W.Frag} (c : He.SaysD (faL T) fn K) : FnFact K T FT F_combined "combined" := by
  obtain ⟨fd, F⟩ := c.def_ 17 (d := d_combined) rfl
  exact ⟨fn_combined, _, _, _, _, fd, n_combined, n_combined.take 2, rfl, rfl, F, ⟨rfl, rfl, rfl, by decide +kernel, rfl, by decide +kernel, by decide +kernel⟩, rfl, rfl, F.bindsN fun _ _ _ _ _ _ us hl => match us, hl with | [_, _], _ => rfl, by decide +kernel⟩
theorem ff__law_draw {K : PySem.W.Frag} (c : He.SaysD (faL T) fn K) : FnFact K T FT F_law_draw "_law_draw" := by
  obtain ⟨fd, F⟩ := c.def_ 18 (d := d__law_draw) rfl
  exact ⟨fn_law_draw, _, _, _, _, fd, n__law_draw, n__law_draw.take 3, rfl, rfl, F, ⟨rfl, rfl, rfl, by decide +kernel, rfl, by decide +kernel, by decide +kernel⟩, rfl, rfl, F.bindsN fun _ _ _ _ _ _ us hl => match us, hl with | [_, _, _], _ => rfl, by decide +kernel⟩
theorem ff__law_pick {K : PySem.W.Frag} (c : He.SaysD (faL T) fn K) : FnFact K T FT F_law_pick "_law_pick" := by
  obtain ⟨fd, F⟩ := c.def_ 19 (d := d__law_pick) rfl
  exact ⟨fn_law_pick, _, _, _, _, fd, n__law_pick, n__law_pick.take 3, rfl, rfl, F, ⟨rfl, rfl, rfl, by decide +kernel, rfl, by decide +kernel, by decide +kernel⟩, rfl, rfl, F.bindsN fun _ _ _ _ _ _ us hl => match us, hl with | [_, _, _], _ => rfl, by decide +kernel⟩
theorem ff__law_groups {K : PySem.W.Frag} (c : He.SaysD (faL T) fn K) : FnFact K T FT F_law_groups "_law_groups" := by
  obtain ⟨fd, F⟩ := c.def_ 20 (d := d__law_groups) rfl
  exact ⟨fn_law_groups, _, _, _, _, fd, n__law_groups, n__law_groups.take 2, rfl, rfl, F, ⟨rfl, rfl, rfl, by decide +kernel, rfl, by decide +kernel, by decide +kernel⟩, rfl, rfl, F.bindsN fun _ _ _ _ _ _ us hl => match us, hl with | [_, _], _ => rfl, by decide +kernel⟩
theorem ff__law_step {K : PySem.W.Frag} (c : He.SaysD (faL T) fn K) : FnFact K T FT F_law_step "_law_step" := by
  obtain ⟨fd, F⟩ := c.def_ 21 (d := d__law_step) rfl
  exact ⟨fn_law_step, _, _, _, _, fd, n__law_step, n__law_step.take 3, rfl, rfl, F, ⟨rfl, rfl, rfl, by decide +kernel, rfl, by decide +kernel, by decide +kernel⟩, rfl, rfl, F.bindsN fun _ _ _ _ _ _ us hl => match us, hl with | [_, _, _], _ => rfl, by decide +kernel⟩
theorem ff__law_spec {K : PySem.W.Frag} (c : He.SaysD (faL T) fn K) : FnFact K T FT F_law_spec "_law_spec" := by
  obtain ⟨fd, F⟩ := c.def_ 22 (d := d__law_spec) rfl
  exact ⟨fn_law_spec, _, _, _, _, fd, n__law_spec, n__law_spec.take 4, rfl, rfl, F, ⟨rfl, rfl, rfl, by decide +kernel, rfl, by decide +kernel, by decide +kernel⟩, rfl, rfl, F.bindsN fun _ _ _ _ _ _ us hl => match us, hl with | [_, _, _, _], _ => rfl, by decide +kernel⟩
theorem ff__law_order {K : PySem.W.Frag} (c : He.SaysD (faL T) fn K) : FnFact K T FT F_law_order "_law_order" := by
  obtain ⟨fd, F⟩ := c.def_ 23 (d := d__law_order) rfl
  exact ⟨fn_law_order, _, _, _, _, fd, n__law_order, n__law_order.take 3, rfl, rfl, F, ⟨rfl, rfl, rfl, by decide +kernel, rfl, by decide +kernel, by decide +kernel⟩, rfl, rfl, F.bindsN fun _ _ _ _ _ _ us hl => match us, hl with | [_, _, _], _ => rfl, by decide +kernel⟩
theorem ff__law_value {K : PySem.W.Frag} (c : He.SaysD (faL T) fn K) : FnFact K T FT F_law_value "_law_value" := by
  obtain ⟨fd, F⟩ := c.def_ 24 (d := d__law_value) rfl
  exact ⟨fn_law_value, _, _, _, _, fd, n__law_value, n__law_value.take 2, rfl, rfl, F, ⟨rfl, rfl, rfl, by decide +kernel, rfl, by decide +kernel, by decide +kernel⟩, rfl, rfl, F.bindsN fun _ _ _ _ _ _ us hl => match us, hl with | [_, _], _ => rfl, by decide +kernel⟩
theorem ff__law_record {K : PySem.W.Frag} (c : He.SaysD (faL T) fn K) : FnFact K T FT F_law_record "_law_record" := by
  obtain ⟨fd, F⟩ := c.def_ 25 (d := d__law_record) rfl
  exact ⟨fn_law_record, _, _, _, _, fd, n__law_record, n__law_record.take 3, rfl, rfl, F, ⟨rfl, rfl, rfl, by decide +kernel, rfl, by decide +kernel, by decide +kernel⟩, rfl, rfl, F.bindsN fun _ _ _ _ _ _ us hl => match us, hl with | [_, _, _], _ => rfl, by decide +kernel⟩
theorem ff__law_ask {K : PySem.W.Frag} (c : He.SaysD (faL T) fn K) : FnFact K T FT F_law_ask "_law_ask" := by
  obtain ⟨fd, F⟩ := c.def_ 26 (d := d__law_ask) rfl
  exact ⟨fn_law_ask, _, _, _, _, fd, n__law_ask, n__law_ask.take 4, rfl, rfl, F, ⟨rfl, rfl, rfl, by decide +kernel, rfl, by decide +kernel, by decide +kernel⟩, rfl, rfl, F.bindsN fun _ _ _ _ _ _ us hl => match us, hl with | [_, _, _, _], _ => rfl, by decide +kernel⟩
theorem ff__law_invalid {K : PySem.W.Frag} (c : He.SaysD (faL T) fn K) : FnFact K T FT F_law_invalid "_law_invalid" := by
  obtain ⟨fd, F⟩ := c.def_ 27 (d := d__law_invalid) rfl
  exact ⟨fn_law_invalid, _, _, _, _, fd, n__law_invalid, n__law_invalid.take 0, rfl, rfl, F, ⟨rfl, rfl, rfl, by decide +kernel, rfl, by decide +kernel, by decide +kernel⟩, rfl, rfl, F.bindsN fun _ _ _ _ _ _ us hl => match us, hl with | [], _ => rfl, by decide +kernel⟩
theorem ff_law {K : PySem.W.Frag} (c : He.SaysD (faL T) fn K) : FnFact K T FT F_law_k02 "law" := by
  obtain ⟨fd, F⟩ := c.def_ 28 (d := d_law) rfl
  exact ⟨fn_law_k02, _, _, _, _, fd, n_law, n_law.take 1, rfl, rfl, F, ⟨rfl, rfl, rfl, by decide +kernel, rfl, by decide +kernel, by decide +kernel⟩, rfl, rfl, F.bindsN fun _ _ _ _ _ _ us hl => match us, hl with | [_], _ => rfl, by decide +kernel⟩
theorem ffs {K : PySem.W.Frag} (c : He.SaysD (faL T) fn K) : ∀ f s, (f, s) ∈ T.f → FnFact K T FT f s := by
  have h : ∀ q ∈ T.f, FnFact K T FT q.1 q.2 := by
    simp only [T, List.forall_mem_cons]
    exact ⟨ff_kind_of c, ff_spelling_of c, ff_is_record c, ff_are_groups c, ff_is_step c, ff_is_width c, ff_is_spec c, ff_need_spec c, ff_need_record c, ff_need_pair c, ff_sign c, ff_rank c, ff_step_result c, ff_compared c, ff_compare c, ff_reversed_step c, ff_reversed_spec c, ff_combined c, ff__law_draw c, ff__law_pick c, ff__law_groups c, ff__law_step c, ff__law_spec c, ff__law_order c, ff__law_value c, ff__law_record c, ff__law_ask c, ff__law_invalid c, ff_law c, by simp⟩
  exact fun f s hs => h (f, s) hs
theorem cfs {K : PySem.W.Frag} (c : He.SaysD (faL T) fn K) : ClsFact K T FT := ⟨fun f m hs => by simp [T] at hs, fun f g s hs => by simp [T] at hs⟩
theorem whf {K : PySem.W.Frag} (c : He.SaysD (faL T) fn K) : T.t = true → WhFact K := fun _ => by
  obtain ⟨fd, F⟩ := c.def_ 29 (d := d__law_which) rfl
  exact ⟨_, _, _, _, fd, F, ⟨rfl, rfl, rfl, by decide +kernel, rfl, by decide +kernel, by decide +kernel⟩, by decide +kernel, by decide +kernel, F.bindsN fun _ _ _ _ _ _ us hl => match us, hl with | [_], _ => rfl, by decide +kernel⟩
abbrev R : PySem.W.OpenRow := PySem.W.OpenLaw.row PySem.Challenge.rw_sortspec_k02_spec_errors
abbrev hk : PySem.W.Hook := hookG 4 T fn
def ob (s : PySem.W.SharedT) : Bool × He.AlD := obGG 4 T fn (HandSHeadRun.getT s)
theorem ob_eq (s : PySem.W.SharedT) : ob s = hk.obs s.abs := obGG_eq (HandSHeadRun.getT_eq s)
def nm0 : List PySem.Str := ["__name__", "SortError", "InvalidSpec", "InvalidRecord", "InvalidList", "Incomparable", "TooLong", "Inconsistent", "Unsorted", "NotFound", "InvalidFormat", "LETTERS", "LARGEST", "LETTERS_MOST", "kind_of", "spelling_of", "is_record", "STEPS", "KINDS", "NAMES", "are_groups", "is_step", "is_width", "is_spec", "need_spec", "need_record", "need_pair", "sign", "rank", "step_result"]
def nm1 : List PySem.Str := ["compared", "compare", "reversed_step", "reversed_spec", "combined", "_law_draw", "_law_pick", "_law_groups", "_law_step", "_law_spec", "_law_order", "_law_value", "_law_record", "_law_which", "_law_ask", "_law_invalid"]
def nms : List PySem.Str := nm0 ++ nm1
theorem run (w : World) : HandSHeadRun.RunEq R (PySem.W.view R.prog [49]) hk ob 6000 nms w := by
  intro os
  kernel_rfl
theorem fin {P : Program} {w : World} {K : PySem.W.Frag} {mg : PySem.Str → Option Value} {h : Heap} {fa : Addr} (X : K.In h) (Gn : h.Ns mainGlobals mg) (x : xtra T K = true) (c : He.SaysD (faL T) fn K) (hm : mg ("law" : PySem.Str) = some (.ref fa))
    (hlaw : ∀ ns : List Int, ns.length ≤ 63 → ∃ M, G.call FT 20 F_law_k02 [.d (.frz (ns.map .int))] [] = .ok (.d (.bl true)) M) : EndOf P w mg h fa "script" 20 :=
  law_end (P := P) (w := w) (k := 19) X Gn c x (by decide +kernel) (ffs c) (cfs c) (whf c) (kfs c) (f := F_law_k02) (by decide +kernel) hm (x := "script") (by
    obtain ⟨fd, F⟩ := c.def_ 28 (d := d_law) rfl
    have b := FunD.bindsA (ps := ["script"]) F fun _ _ _ _ _ _ us hl => match us, hl with | [_], _ => rfl
    exact ⟨fd, fun s v => b s [v] rfl, n_law, _, _, _, _, F, ⟨rfl, rfl, rfl, by decide +kernel, rfl, by decide +kernel, by decide +kernel⟩, fn_law_k02, rfl, rfl, rfl, by decide +kernel⟩) hlaw
end LK02
set_option Elab.async false
set_option linter.all false
set_option autoImplicit false
set_option maxRecDepth 100000
set_option maxHeartbeats 4000000
/-! Evaluation by simp. -/
namespace G

def ifO (w : W) (x y : Out) : Out := match w with
  | .d (.bl true) => x
  | .d (.bl false) => y
  | _ => .bad
def ifR {α : Type} (w : W) (x y : R α) : R α := match w with
  | .d (.bl true) => x
  | .d (.bl false) => y
  | _ => .bad
@[simp] theorem ifO_bl (b : Bool) (x y : Out) : ifO (.d (.bl b)) x y = if b then x else y := by cases b <;> rfl
@[simp] theorem ifR_bl {α : Type} (b : Bool) (x y : R α) : ifR (.d (.bl b)) x y = if b then x else y := by cases b <;> rfl
theorem ok_and (b c : Bool) (M : Mem) : (if b = true then R.ok (W.d (.bl c)) M else .ok (.d (.bl false)) M) = .ok (.d (.bl (b && c))) M := by cases b <;> rfl
theorem ok_or (b c : Bool) (M : Mem) : (if b = true then R.ok (W.d (.bl true)) M else .ok (.d (.bl c)) M) = .ok (.d (.bl (b || c))) M := by cases b <;> rfl
@[simp] theorem ofO_some {α β : Type} (a : α) (f : α → R β) : ofO (some a) f = f a := (rfl)
@[simp] theorem ofO_none {α β : Type} (f : α → R β) : ofO (none : Option α) f = .bad := (rfl)
@[simp] theorem ofOut_some {α : Type} (a : α) (f : α → Out) : ofOut (some a) f = f a := (rfl)
@[simp] theorem ofOut_none {α : Type} (f : α → Out) : ofOut (none : Option α) f = .bad := (rfl)
section
variable (Γ : Nat → List W → Mem → R W) (σ : Sl) (M : Mem)
@[simp] theorem x_c (x : D) : evE Γ (.c x) σ M = .ok (.d x) M := by simp only [evE]
@[simp] theorem x_v (i : Nat) : evE Γ (.v i) σ M = match σ[i]? with
    | some (some w) => .ok w M
    | _ => .bad := by simp only [evE] <;> rfl
@[simp] theorem x_g (n : Nat) (x : D) : evE Γ (.g n x) σ M = .ok (.d x) M := by simp only [evE]
@[simp] theorem x_tup (es : List Ex) : evE Γ (.tup es) σ M = (evDs Γ es σ M).bind fun ds M => .ok (.d (.tup ds)) M := by simp only [evE]
@[simp] theorem x_lst (mu : Nat) (es : List Ex) : evE Γ (.lst mu es) σ M = (evDs Γ es σ M).bind fun ds M => mkL mu ds M := by simp only [evE]
@[simp] theorem x_op (o : Op) (a b : Ex) : evE Γ (.op o a b) σ M = (evE Γ a σ M).bind fun w M => (evE Γ b σ M).bind fun w' M => ofO (asD M w) fun x => ofO (asD M w') fun y => ofO (opD o x y) fun z => .ok (.d z) M := by simp only [evE]
def chW (Γ : Nat → List W → Mem → R W) (o o' : Op) (w w' : W) (x y : D) (c : Ex) (σ : Sl) (M : Mem) : R W := match opD o x y with
    | some (.bl true) => (evE Γ c σ M).bind fun w3 M => ofO (asD M w') fun y => ofO (asD M w3) fun z => ofO (opD o' y z) fun r => .ok (.d r) M
    | some (.bl false) => .ok (.d (.bl false)) M
    | _ => .bad
@[simp] theorem x_chain (o o' : Op) (a b c : Ex) : evE Γ (.chain o o' a b c) σ M = (evE Γ a σ M).bind fun w M => (evE Γ b σ M).bind fun w' M => ofO (asD M w) fun x => ofO (asD M w') fun y => chW Γ o o' w w' x y c σ M := by simp only [evE, chW] <;> rfl
theorem chW_eq {o o' : Op} {w w' : W} {x y : D} {c : Ex} {b : Bool} (h : opD o x y = some (.bl b)) : chW Γ o o' w w' x y c σ M = if b then (evE Γ c σ M).bind fun w3 M => ofO (asD M w') fun y => ofO (asD M w3) fun z => ofO (opD o' y z) fun r => .ok (.d r) M else .ok (.d (.bl false)) M := by
  unfold chW; rw [h]; cases b <;> rfl
def notW (M : Mem) : W → R W
  | .d (.bl b) => .ok (.d (.bl (!b))) M
  | _ => .bad
@[simp] theorem notW_bl (b : Bool) : notW M (.d (.bl b)) = .ok (.d (.bl (!b))) M := (rfl)
@[simp] theorem x_not (a : Ex) : evE Γ (.not a) σ M = (evE Γ a σ M).bind fun w M => notW M w := by
  simp only [evE] <;> congr 1
@[simp] theorem x_and (es : List Ex) : evE Γ (.and es) σ M = evAnd Γ es σ M := by simp only [evE]
@[simp] theorem x_or (es : List Ex) : evE Γ (.or es) σ M = evOr Γ es σ M := by simp only [evE]
@[simp] theorem x_and1 (e : Ex) : evAnd Γ [e] σ M = evE Γ e σ M := by simp only [evAnd]
@[simp] theorem x_or1 (e : Ex) : evOr Γ [e] σ M = evE Γ e σ M := by simp only [evOr]
@[simp] theorem x_and2 (e e2 : Ex) (es : List Ex) : evAnd Γ (e :: e2 :: es) σ M = (evE Γ e σ M).bind fun w M => ifR w (evAnd Γ (e2 :: es) σ M) (.ok (.d (.bl false)) M) := by
  simp only [evAnd] <;> congr 1
@[simp] theorem x_or2 (e e2 : Ex) (es : List Ex) : evOr Γ (e :: e2 :: es) σ M = (evE Γ e σ M).bind fun w M => ifR w (.ok (.d (.bl true)) M) (evOr Γ (e2 :: es) σ M) := by
  simp only [evOr] <;> congr 1
@[simp] theorem x_ife (c a b : Ex) : evE Γ (.ife c a b) σ M = (evE Γ c σ M).bind fun w M => ifR w (evE Γ a σ M) (evE Γ b σ M) := by simp only [evE] <;> congr 1
@[simp] theorem x_bi (b : Bi) (es : List Ex) : evE Γ (.bi b es) σ M = (evEs Γ es σ M).bind fun ws M => ofO (ws.mapM (asD M)) fun ds => ofO (biD b ds) fun x => .ok (.d x) M := by simp only [evE]
@[simp] theorem x_un (b : Bi) (a : Ex) : evE Γ (.un b a) σ M = (evE Γ a σ M).bind fun w M => ofO (asD M w) fun x => ofO (biD b [x]) fun y => .ok (.d y) M := by simp only [evE]
@[simp] theorem x_call (f : Nat) (es : List Ex) : evE Γ (.call f es) σ M = (evEs Γ es σ M).bind fun ws M => Γ f ws M := by simp only [evE]
@[simp] theorem x_slice (a : Ex) (lo hi : Option Ex) : evE Γ (.slice a lo hi) σ M = (evE Γ a σ M).bind fun w M => (evOpt Γ lo σ M).bind fun l M => (evOpt Γ hi σ M).bind fun h M => ofO (asD M w) fun x => ofO (cutD l h x) fun y => .ok (.d y) M := by simp only [evE]
@[simp] theorem x_rev (a : Ex) : evE Γ (.rev a) σ M = (evE Γ a σ M).bind fun w M => ofO (asD M w) fun x => ofO (revD x) fun y => .ok (.d y) M := by simp only [evE]
@[simp] theorem x_sorted (a : Ex) : evE Γ (.sorted a) σ M = (evE Γ a σ M).bind fun w M => ofO (asD M w) fun x => ofO (sortedD x) fun y => .ok (.d y) M := by simp only [evE]
def lofW (mu : Nat) (M : Mem) : D → R W
  | .lst ds => mkL mu ds M
  | .tup ds => mkL mu ds M
  | _ => .bad
@[simp] theorem x_listof (mu : Nat) (a : Ex) : evE Γ (.listof mu a) σ M = (evE Γ a σ M).bind fun w M => ofO (asD M w) fun x => lofW mu M x := by
  simp only [evE] <;> congr 1
def repW (mu : Nat) (M : Mem) : Option D → R W
  | some (.lst ds) => mkL mu ds M
  | _ => .bad
@[simp] theorem x_rep (mu : Nat) (a b : Ex) : evE Γ (.rep mu a b) σ M = (evE Γ a σ M).bind fun w M => (evE Γ b σ M).bind fun w' M => ofO (asD M w) fun x => ofO (asD M w') fun y => repW mu M (mulD x y) := by
  simp only [evE] <;> rfl
@[simp] theorem x_comp (mu : Nat) (t : Tg) (it : It) (cond : Option Ex) (elt : Ex) : evE Γ (.comp mu t it cond elt) σ M = (evIt Γ it σ M).bind fun p M =>
      (compAll p.2 (fun x => bindT t x (wipe σ t.vars)) (evCond Γ cond) (evE Γ elt) p.1 M).bind fun ds M => mkL mu ds M := by simp only [evE]
@[simp] theorem x_comp2 (t : Tg) (it : It) (t2 : Tg) (it2 : It) (elt : Ex) : evE Γ (.comp2 t it t2 it2 elt) σ M = (evIt Γ it σ M).bind fun p M =>
      (flatAll p.2 (fun x => bindT t x (wipe σ (t.vars ++ t2.vars))) (evIt Γ it2) (fun σ1 y => bindT t2 y (wipe σ1 t2.vars)) (evE Γ elt) p.1 M).bind fun ds M => mkL 0 ds M := by simp only [evE]
@[simp] theorem x_meth (m : Mt) (a : Ex) (es : List Ex) : evE Γ (.meth m a es) σ M = (evE Γ a σ M).bind fun w M => if lstW w M then (evEs Γ es σ M).bind fun ws M => methW m w ws M else .bad := by simp only [evE]
@[simp] theorem x_es0 : evEs Γ [] σ M = .ok [] M := by simp only [evEs]
@[simp] theorem x_es (e : Ex) (es : List Ex) : evEs Γ (e :: es) σ M = (evE Γ e σ M).bind fun w M => (evEs Γ es σ M).bind fun ws M => .ok (w :: ws) M := by simp only [evEs]
@[simp] theorem x_ds0 : evDs Γ [] σ M = .ok [] M := by simp only [evDs]
def consW (w : W) (ds : List D) (M : Mem) : R (List D) := match w with
    | .d x => .ok (x :: ds) M
    | _ => .bad
@[simp] theorem consW_d (x : D) (ds : List D) : consW (.d x) ds M = .ok (x :: ds) M := (rfl)
@[simp] theorem x_ds (e : Ex) (es : List Ex) : evDs Γ (e :: es) σ M = (evE Γ e σ M).bind fun w M => (evDs Γ es σ M).bind fun ds M => consW w ds M := by simp only [evDs] <;> rfl
@[simp] theorem x_opt0 : evOpt Γ none σ M = .ok none M := by simp only [evOpt]
def intW (M : Mem) : W → R (Option Int)
  | .d (.int i) => .ok (some i) M
  | _ => .bad
@[simp] theorem intW_i (i : Int) : intW M (.d (.int i)) = .ok (some i) M := (rfl)
@[simp] theorem x_opt1 (e : Ex) : evOpt Γ (some e) σ M = (evE Γ e σ M).bind fun w M => intW M w := by
  simp only [evOpt] <;> congr 1
@[simp] theorem x_cond0 : evCond Γ none σ M = .ok (.d (.bl true)) M := by simp only [evCond]
@[simp] theorem x_cond1 (e : Ex) : evCond Γ (some e) σ M = evE Γ e σ M := by simp only [evCond]
@[simp] theorem x_seq (a : Ex) : evIt Γ (.seq a) σ M = (evE Γ a σ M).bind fun w M => ofO (asD M w) fun x => ofO (itemsD x) fun xs => .ok (xs, still w x) M := by simp only [evIt]
def rngW (M : Mem) : W → R (List D × (Mem → Bool))
  | .d (.int n) => if -1000000 ≤ n ∧ n ≤ 1000000 then .ok ((List.range n.toNat).map (fun (i : Nat) => D.int (i : Int)), fun _ => true) M else .bad
  | _ => .bad
@[simp] theorem x_range1 (a : Ex) : evIt Γ (.range1 a) σ M = (evE Γ a σ M).bind fun w M => rngW M w := by
  simp only [evIt] <;> congr 1
theorem rngW_i {n : Int} (h1 : -1000000 ≤ n) (h2 : n ≤ 1000000) : rngW M (.d (.int n)) = .ok ((List.range n.toNat).map (fun (i : Nat) => D.int (i : Int)), fun _ => true) M := by
  simp only [rngW, h1, h2, and_self, if_true]
/-! ### statements -/
@[simp] theorem x_asg (i : Nat) (e : Ex) : evS Γ (.asg (.nm i) e) σ M = (evE Γ e σ M).out fun w M => .nx (σ.put i w) M := by simp only [evS]
def unW (ts : List Tg) (σ : Sl) (M : Mem) : D → Out
  | .tup ds => ofOut (bindTs ts ds σ) fun σ => .nx σ M
  | .lst ds => ofOut (bindTs ts ds σ) fun σ => .nx σ M
  | _ => .bad
@[simp] theorem unW_t (ts : List Tg) (ds : List D) : unW ts σ M (.tup ds) = ofOut (bindTs ts ds σ) fun σ => .nx σ M := (rfl)
@[simp] theorem unW_l (ts : List Tg) (ds : List D) : unW ts σ M (.lst ds) = ofOut (bindTs ts ds σ) fun σ => .nx σ M := (rfl)
@[simp] theorem x_asgT (ts : List Tg) (e : Ex) : evS Γ (.asg (.tup ts) e) σ M = (evE Γ e σ M).out fun w M => ofOut (asD M w) fun x => unW ts σ M x := by
  simp only [evS] <;> congr 1
@[simp] theorem x_par (is : List Nat) (es : List Ex) : evS Γ (.par is es) σ M = (evEs Γ es σ M).out fun ws M => ofOut (putAll is ws σ) fun σ => .nx σ M := by simp only [evS]
def augW (i : Nat) (o : Op) (σ : Sl) (M : Mem) (x : Int) : W → Out
  | .d (.int y) => ofOut (augI o x y) fun z => .nx (σ.put i (.d (.int z))) M
  | _ => .bad
@[simp] theorem augW_i (i : Nat) (o : Op) (x y : Int) : augW i o σ M x (.d (.int y)) = ofOut (augI o x y) fun z => .nx (σ.put i (.d (.int z))) M := (rfl)
theorem x_aug (i : Nat) (o : Op) (e : Ex) {x : Int} (h : σ[i]? = some (some (.d (.int x)))) : evS Γ (.aug i o e) σ M = (evE Γ e σ M).out fun w M => augW i o σ M x w := by
  simp only [evS, h] <;> congr 1
def setD (Γ : Nat → List W → Mem → R W) (a i : Ex) (σ : Sl) (M : Mem) : W → Out
  | .d x => (evE Γ a σ M).out fun wa M => (evE Γ i σ M).out fun wi M => ofOut (setW wa wi x M) fun M => .nx σ M
  | _ => .bad
@[simp] theorem setD_d (a i : Ex) (x : D) : setD Γ a i σ M (.d x) = (evE Γ a σ M).out fun wa M => (evE Γ i σ M).out fun wi M => ofOut (setW wa wi x M) fun M => .nx σ M := (rfl)
@[simp] theorem x_set (a i e : Ex) : evS Γ (.set a i e) σ M = (evE Γ e σ M).out fun w M => setD Γ a i σ M w := by
  simp only [evS] <;> congr 1
def augixW (o : Op) (wa wi : W) (old : Int) (σ : Sl) (M : Mem) : W → Out
  | .d (.int y) => ofOut (augI o old y) fun z => ofOut (setW wa wi (.int z) M) fun M => .nx σ M
  | _ => .bad
@[simp] theorem augixW_i (o : Op) (wa wi : W) (old y : Int) : augixW o wa wi old σ M (.d (.int y)) = ofOut (augI o old y) fun z => ofOut (setW wa wi (.int z) M) fun M => .nx σ M := (rfl)
@[simp] theorem x_augix (a i : Ex) (o : Op) (e : Ex) : evS Γ (.augix a i o e) σ M = (evE Γ a σ M).out fun wa M => (evE Γ i σ M).out fun wi M => ofOut (getIx wa wi M) fun old => (evE Γ e σ M).out fun w M => augixW o wa wi old σ M w := by
  simp only [evS] <;> rfl
@[simp] theorem x_ex (e : Ex) : evS Γ (.ex e) σ M = (evE Γ e σ M).out fun _ M => .nx σ M := by simp only [evS]
@[simp] theorem x_iff (c : Ex) (a b : List Sm) : evS Γ (.iff c a b) σ M = (evE Γ c σ M).out fun w M => ifO w (evSs Γ a σ M) (evSs Γ b σ M) := by simp only [evS] <;> rfl
@[simp] theorem x_for (t : Tg) (it : It) (body : List Sm) : evS Γ (.for_ t it body) σ M = (evIt Γ it σ M).out fun p M => forLoop p.2 (fun x σ => bindT t x σ) (evSs Γ body) p.1 σ M := by simp only [evS]
@[simp] theorem x_whl (c : Ex) (body : List Sm) : evS Γ (.whl c body) σ M = whileLoop (evE Γ c) (evSs Γ body) 1000 σ M := by simp only [evS]
@[simp] theorem x_ret (e : Ex) : evS Γ (.ret e) σ M = (evE Γ e σ M).out fun w M => .ret w M := by simp only [evS]
def frzO (M : Mem) : Option (Option W) → Out
  | some (some w) => ofOut (freeze w M) fun q => .ret (.d q.1) q.2
  | _ => .bad
@[simp] theorem frzO_s (w : W) : frzO M (some (some w)) = ofOut (freeze w M) fun q => .ret (.d q.1) q.2 := (rfl)
@[simp] theorem x_retF (i : Nat) : evS Γ (.retF i) σ M = frzO M σ[i]? := by simp only [evS] <;> rfl
@[simp] theorem x_rse (c : Nat) : evS Γ (.rse c) σ M = .exc c M := by simp only [evS]
@[simp] theorem x_ss0 : evSs Γ [] σ M = .nx σ M := by simp only [evSs]
@[simp] theorem x_ss (s : Sm) (ss : List Sm) : evSs Γ (s :: ss) σ M = (evS Γ s σ M).andThen fun σ M => evSs Γ ss σ M := by simp only [evSs]
end
theorem call_fn {T : Nat → Option Fn} {k f : Nat} {fn : Fn} {ws : List W} {M : Mem} (h : T f = some fn) (hl : ws.length = fn.np) : call T (k + 1) f ws M = fin M.length (evSs (call T k) fn.body (entry fn ws) M) := by
  simp only [call, h, hl, if_true]
@[simp] theorem fin_d {n : Nat} {x : D} {M : Mem} : fin n (.ret (.d x) M) = .ok (.d x) (M.take n) := (rfl)
@[simp] theorem fin_nx {n : Nat} {σ : Sl} {M : Mem} : fin n (.nx σ M) = .ok (.d .non) (M.take n) := (rfl)
@[simp] theorem fin_exc {n c : Nat} {M : Mem} : fin n (.exc c M) = .exc c (M.take n) := (rfl)
theorem fin_ite {n : Nat} {b : Bool} {x y : Out} : fin n (if b = true then x else y) = if b = true then fin n x else fin n y := by cases b <;> rfl
theorem then_ite {b : Bool} {x y : Out} {f : Sl → Mem → Out} : (if b = true then x else y).andThen f = if b = true then x.andThen f else y.andThen f := by cases b <;> rfl

/-! ### operators -/
@[simp] theorem o_add (a b : D) : opD .add a b = addD a b := (rfl)
@[simp] theorem o_sub (a b : D) : opD .sub a b = subD a b := (rfl)
@[simp] theorem o_mul (a b : D) : opD .mul a b = mulD a b := (rfl)
@[simp] theorem o_fdiv (a b : D) : opD .fdiv a b = fdivD a b := (rfl)
@[simp] theorem o_mod (a b : D) : opD .mod a b = modD a b := (rfl)
@[simp] theorem o_pow (a b : D) : opD .pow a b = powD a b := (rfl)
@[simp] theorem o_eq (a b : D) : opD .eq a b = eqD a b := (rfl)
@[simp] theorem o_ne (a b : D) : opD .ne a b = neD a b := (rfl)
@[simp] theorem o_lt (a b : D) : opD .lt a b = ltD a b := (rfl)
@[simp] theorem o_le (a b : D) : opD .le a b = leD a b := (rfl)
@[simp] theorem o_gt (a b : D) : opD .gt a b = gtD a b := (rfl)
@[simp] theorem o_ge (a b : D) : opD .ge a b = geD a b := (rfl)
@[simp] theorem o_is_ (a b : D) : opD .is_ a b = isD a b := (rfl)
@[simp] theorem o_ix (a b : D) : opD .ix a b = ixD a b := (rfl)
@[simp] theorem o_isnot (a b : D) : opD .isnot a b = (isD a b).map fun | .bl c => .bl (!c) | x => x := (rfl)
@[simp] theorem o_in (a b : D) : opD .in_ a b = (inD a b).map .bl := (rfl)
@[simp] theorem o_notin (a b : D) : opD .notin a b = (inD a b).map fun c => .bl (!c) := (rfl)
@[simp] theorem add_ii (a b : Int) : addD (.int a) (.int b) = some (.int (a + b)) := (rfl)
theorem add_ss {a b : List Nat} (h : a.length + b.length ≤ line) : addD (.str a) (.str b) = some (.str (a ++ b)) := by simp only [addD, h, if_true]
theorem add_tt {a b : List D} (h : a.length + b.length ≤ line) : addD (.tup a) (.tup b) = some (.tup (a ++ b)) := by simp only [addD, h, if_true]
theorem add_ll {a b : List D} (h : a.length + b.length ≤ line) : addD (.lst a) (.lst b) = some (.lst (a ++ b)) := by simp only [addD, h, if_true]
@[simp] theorem sub_ii (a b : Int) : subD (.int a) (.int b) = some (.int (a - b)) := (rfl)
@[simp] theorem subb_b (a b : Bool) : subD (.bl a) (.bl b) = some (.int (b2i a - b2i b)) := (rfl)
theorem mul_l {a b : Int} (h : -(2 ^ 64) < a ∧ a < 2 ^ 64) : mulD (.int a) (.int b) = some (.int (a * b)) := by simp only [mulD, h, and_self, true_or, if_true]
theorem mul_r {a b : Int} (h : -(2 ^ 64) < b ∧ b < 2 ^ 64) : mulD (.int a) (.int b) = some (.int (a * b)) := by simp only [mulD, h, and_self, true_or, or_true, if_true]
theorem mul_2 {a b : Int} (h : a.natAbs < 2 ^ 2000) (h' : b.natAbs < 2 ^ 2000) : mulD (.int a) (.int b) = some (.int (a * b)) := by
  exact if_pos (.inr (.inr ⟨h, h'⟩))
theorem fdiv_ii {a b : Int} (h : 0 < b) (h' : b < 1073741824) : fdivD (.int a) (.int b) = some (.int (a / b)) := by simp only [fdivD, h, h', and_self, if_true]
theorem mod_ii {a b : Int} (h : 0 < b) : modD (.int a) (.int b) = some (.int (a % b)) := by simp only [modD, h, if_true]
theorem pow_ii {a b : Int} (h : 0 ≤ b) (h2 : b ≤ 1000) (h3 : a.natAbs < 2 ^ 64) : powD (.int a) (.int b) = some (.int (a ^ b.toNat)) := by simp only [powD, h, h2, h3, and_self, if_true]
theorem eqD_of {a b : D} (h : a.dat = true) (h' : b.dat = true) : eqD a b = some (.bl (D.eqv a b)) := by simp only [eqD, h, h', Bool.and_self, if_true]
theorem neD_of {a b : D} (h : a.dat = true) (h' : b.dat = true) : neD a b = some (.bl (!D.eqv a b)) := by simp only [neD, h, h', Bool.and_self, if_true]
@[simp] theorem eq_ii (a b : Int) : eqD (.int a) (.int b) = some (.bl (decide (a = b))) := by simp [eqD, D.dat, D.okd, D.eqv]; rfl
@[simp] theorem ne_ii (a b : Int) : neD (.int a) (.int b) = some (.bl (!decide (a = b))) := by simp [neD, D.dat, D.okd, D.eqv]; rfl
@[simp] theorem lt_ii (a b : Int) : ltD (.int a) (.int b) = some (.bl (decide (a < b))) := (rfl)
@[simp] theorem lt_ss (a b : List Nat) : ltD (.str a) (.str b) = some (.bl (ltS a b)) := (rfl)
@[simp] theorem le_ii (a b : Int) : leD (.int a) (.int b) = some (.bl (decide (a ≤ b))) := (rfl)
@[simp] theorem gt_ii (a b : Int) : gtD (.int a) (.int b) = some (.bl (decide (b < a))) := (rfl)
@[simp] theorem gt_ss (a b : List Nat) : gtD (.str a) (.str b) = some (.bl (ltS b a)) := (rfl)
@[simp] theorem ge_ii (a b : Int) : geD (.int a) (.int b) = some (.bl (decide (b ≤ a))) := (rfl)
@[simp] theorem is_non (a : D) : isD a .non = some (.bl a.isNon) := by cases a <;> rfl
@[simp] theorem is_bb (a b : Bool) : isD (.bl a) (.bl b) = some (.bl (a == b)) := (rfl)
@[simp] theorem n_non : D.isNon .non = true := (rfl)
@[simp] theorem n_bl (b : Bool) : D.isNon (.bl b) = false := (rfl)
@[simp] theorem n_int (b : Int) : D.isNon (.int b) = false := (rfl)
@[simp] theorem n_str (b : List Nat) : D.isNon (.str b) = false := (rfl)
@[simp] theorem n_tup (b : List D) : D.isNon (.tup b) = false := (rfl)
@[simp] theorem n_lst (b : List D) : D.isNon (.lst b) = false := (rfl)
@[simp] theorem in_c (c : Nat) (b : List Nat) : inD (.str [c]) (.str b) = some (b.contains c) := (rfl)
theorem in_t {a : D} {ds : List D} (h : a.flat = true) (h' : ds.all D.flat = true) : inD a (.tup ds) = some (ds.any fun x => D.eqv x a) := by cases a <;> simp_all [inD] <;> (try (rename_i z; cases z <;> simp_all [inD]))
theorem in_k {a : D} {ds : List D} (h : a.flat = true) (h' : ds.all D.flat = true) : inD a (.ktup ds) = some (ds.any fun x => D.eqv x a) := by cases a <;> simp_all [inD] <;> (try (rename_i z; cases z <;> simp_all [inD]))
theorem in_l {a : D} {ds : List D} (h : a.dat = true) (h' : ds.all D.dat = true) : inD a (.lst ds) = some (ds.any fun x => D.eqv x a) := by cases a <;> simp_all [inD] <;> (try (rename_i z; cases z <;> simp_all [inD]))
@[simp] theorem ix_t (ds : List D) (i : Int) : ixD (.tup ds) (.int i) = at_ ds i := (rfl)
@[simp] theorem ix_l (ds : List D) (i : Int) : ixD (.lst ds) (.int i) = at_ ds i := (rfl)
@[simp] theorem ix_f (ds : List D) (i : Int) : ixD (.frz ds) (.int i) = at_ ds i := (rfl)
theorem at_nat {α : Type} (xs : List α) (n : Nat) : at_ xs (n : Int) = xs[n]? := by
  unfold at_ ix
  rw [if_pos (by omega)]
  by_cases h : n < xs.length
  · rw [if_pos (by omega)]; simp
  · rw [if_neg (by omega)]; simp; omega
@[simp] theorem at_0 {α : Type} (xs : List α) : at_ xs 0 = xs[0]? := at_nat xs 0
@[simp] theorem at_1 {α : Type} (xs : List α) : at_ xs 1 = xs[1]? := at_nat xs 1
@[simp] theorem at_2 {α : Type} (xs : List α) : at_ xs 2 = xs[2]? := at_nat xs 2
theorem at_int {α : Type} (xs : List α) {i : Int} (h : 0 ≤ i) : at_ xs i = xs[i.toNat]? := by
  have := at_nat xs i.toNat
  rwa [Int.toNat_of_nonneg h] at this
@[simp] theorem eqv_ii (a b : Int) : D.eqv (.int a) (.int b) = (a == b) := by simp only [D.eqv]
@[simp] theorem eqv_bb (a b : Bool) : D.eqv (.bl a) (.bl b) = (a == b) := by simp only [D.eqv]
@[simp] theorem eqv_ss (a b : List Nat) : D.eqv (.str a) (.str b) = (a == b) := by simp only [D.eqv]
@[simp] theorem eqv_tt (a b : List D) : D.eqv (.tup a) (.tup b) = D.eqvs a b := by simp only [D.eqv]
@[simp] theorem eqv_tk (a b : List D) : D.eqv (.tup a) (.ktup b) = D.eqvs a b := by simp only [D.eqv]
@[simp] theorem eqv_kt (a b : List D) : D.eqv (.ktup a) (.tup b) = D.eqvs a b := by simp only [D.eqv]
@[simp] theorem eqv_ll (a b : List D) : D.eqv (.lst a) (.lst b) = D.eqvs a b := by simp only [D.eqv]
@[simp] theorem eqv_fl (a b : List D) : D.eqv (.frz a) (.lst b) = D.eqvs a b := by simp only [D.eqv]
@[simp] theorem eqv_nn : D.eqv .non .non = true := by simp only [D.eqv]
@[simp] theorem eqvs_0 : D.eqvs [] [] = true := by simp only [D.eqvs]
@[simp] theorem eqvs_1 (x : D) (xs : List D) : D.eqvs (x :: xs) [] = false := by simp only [D.eqvs]
@[simp] theorem eqvs_2 (x : D) (xs : List D) : D.eqvs [] (x :: xs) = false := by simp only [D.eqvs]
@[simp] theorem eqvs_3 (x y : D) (xs ys : List D) : D.eqvs (x :: xs) (y :: ys) = (D.eqv x y && D.eqvs xs ys) := by simp only [D.eqvs]
@[simp] theorem flat_non : D.flat .non = true := (rfl)
@[simp] theorem flat_bl (b : Bool) : D.flat (.bl b) = true := (rfl)
@[simp] theorem flat_int (b : Int) : D.flat (.int b) = true := (rfl)
@[simp] theorem flat_str (b : List Nat) : D.flat (.str b) = true := (rfl)
@[simp] theorem dat_non : D.dat .non = true := (rfl)
@[simp] theorem dat_bl (b : Bool) : D.dat (.bl b) = true := (rfl)
@[simp] theorem dat_int (b : Int) : D.dat (.int b) = true := (rfl)
theorem okd_mono : ∀ {n m : Nat} {x : D}, n ≤ m → D.okd n x = true → D.okd m x = true
  | n, m, .non, _, _ => by simp [D.okd]
  | n, m, .bl _, _, _ => by simp [D.okd]
  | n, m, .int _, _, _ => by simp [D.okd]
  | n, m, .str z, _, h => by simpa [D.okd] using h
  | 0, m, .tup _, _, h => by simp [D.okd] at h
  | 0, m, .ktup _, _, h => by simp [D.okd] at h
  | 0, m, .lst _, _, h => by simp [D.okd] at h
  | 0, m, .frz _, _, h => by simp [D.okd] at h
  | n, m, .dct _ _, _, h => by simp [D.okd] at h
  | n, m, .dcf _ _, _, h => by simp [D.okd] at h
  | n, m, .fn _, _, h => by simp [D.okd] at h
  | n + 1, 0, .tup _, h, _ => by omega
  | n + 1, 0, .ktup _, h, _ => by omega
  | n + 1, 0, .lst _, h, _ => by omega
  | n + 1, 0, .frz _, h, _ => by omega
  | n + 1, m + 1, .tup ds, h, g => by simp only [D.okd, List.all_eq_true] at g ⊢; exact fun x hx => okd_mono (by omega) (g x hx)
  | n + 1, m + 1, .ktup ds, h, g => by simp only [D.okd, List.all_eq_true] at g ⊢; exact fun x hx => okd_mono (by omega) (g x hx)
  | n + 1, m + 1, .lst ds, h, g => by simp only [D.okd, List.all_eq_true] at g ⊢; exact fun x hx => okd_mono (by omega) (g x hx)
  | n + 1, m + 1, .frz ds, h, g => by simp only [D.okd, List.all_eq_true] at g ⊢; exact fun x hx => okd_mono (by omega) (g x hx)
/-! ### built-ins -/
theorem len_s {z : List Nat} (h : z.length ≤ line) : biD .len [.str z] = some (.int z.length) := by simp only [biD, h, if_true]
@[simp] theorem len_t (ds : List D) : biD .len [.tup ds] = some (.int ds.length) := (rfl)
@[simp] theorem len_l (ds : List D) : biD .len [.lst ds] = some (.int ds.length) := (rfl)
@[simp] theorem len_f (ds : List D) : biD .len [.frz ds] = some (.int ds.length) := (rfl)
@[simp] theorem b_isInt_non  : biD .isInt [.non] = some (.bl false) := (rfl)
@[simp] theorem b_isInt_bl (b : Bool) : biD .isInt [.bl b] = some (.bl true) := (rfl)
@[simp] theorem b_isInt_int (b : Int) : biD .isInt [.int b] = some (.bl true) := (rfl)
@[simp] theorem b_isInt_str (b : List Nat) : biD .isInt [.str b] = some (.bl false) := (rfl)
@[simp] theorem b_isInt_tup (b : List D) : biD .isInt [.tup b] = some (.bl false) := (rfl)
@[simp] theorem b_isInt_lst (b : List D) : biD .isInt [.lst b] = some (.bl false) := (rfl)
@[simp] theorem b_isBool_non  : biD .isBool [.non] = some (.bl false) := (rfl)
@[simp] theorem b_isBool_bl (b : Bool) : biD .isBool [.bl b] = some (.bl true) := (rfl)
@[simp] theorem b_isBool_int (b : Int) : biD .isBool [.int b] = some (.bl false) := (rfl)
@[simp] theorem b_isBool_str (b : List Nat) : biD .isBool [.str b] = some (.bl false) := (rfl)
@[simp] theorem b_isBool_tup (b : List D) : biD .isBool [.tup b] = some (.bl false) := (rfl)
@[simp] theorem b_isBool_lst (b : List D) : biD .isBool [.lst b] = some (.bl false) := (rfl)
@[simp] theorem b_isStr_non  : biD .isStr [.non] = some (.bl false) := (rfl)
@[simp] theorem b_isStr_bl (b : Bool) : biD .isStr [.bl b] = some (.bl false) := (rfl)
@[simp] theorem b_isStr_int (b : Int) : biD .isStr [.int b] = some (.bl false) := (rfl)
@[simp] theorem b_isStr_str (b : List Nat) : biD .isStr [.str b] = some (.bl true) := (rfl)
@[simp] theorem b_isStr_tup (b : List D) : biD .isStr [.tup b] = some (.bl false) := (rfl)
@[simp] theorem b_isStr_lst (b : List D) : biD .isStr [.lst b] = some (.bl false) := (rfl)
@[simp] theorem b_isTup_non  : biD .isTup [.non] = some (.bl false) := (rfl)
@[simp] theorem b_isTup_bl (b : Bool) : biD .isTup [.bl b] = some (.bl false) := (rfl)
@[simp] theorem b_isTup_int (b : Int) : biD .isTup [.int b] = some (.bl false) := (rfl)
@[simp] theorem b_isTup_str (b : List Nat) : biD .isTup [.str b] = some (.bl false) := (rfl)
@[simp] theorem b_isTup_tup (b : List D) : biD .isTup [.tup b] = some (.bl true) := (rfl)
@[simp] theorem b_isTup_lst (b : List D) : biD .isTup [.lst b] = some (.bl false) := (rfl)
@[simp] theorem b_isList_non  : biD .isList [.non] = some (.bl false) := (rfl)
@[simp] theorem b_isList_bl (b : Bool) : biD .isList [.bl b] = some (.bl false) := (rfl)
@[simp] theorem b_isList_int (b : Int) : biD .isList [.int b] = some (.bl false) := (rfl)
@[simp] theorem b_isList_str (b : List Nat) : biD .isList [.str b] = some (.bl false) := (rfl)
@[simp] theorem b_isList_tup (b : List D) : biD .isList [.tup b] = some (.bl false) := (rfl)
@[simp] theorem b_isList_lst (b : List D) : biD .isList [.lst b] = some (.bl true) := (rfl)
theorem str_i {i : Int} (h : 0 ≤ i) (h' : i < 10 ^ 10) : biD .str [.int i] = some (.str (digits i.toNat)) := by simp only [biD, h, h', and_self, if_true]
@[simp] theorem str_s (z : List Nat) : biD .str [.str z] = some (.str z) := (rfl)
@[simp] theorem all_l (ds : List D) : biD .all [.lst ds] = (boolsOf ds).map fun bs => .bl (bs.all id) := (rfl)
@[simp] theorem tuple_l (ds : List D) : biD .tuple [.lst ds] = some (.tup ds) := (rfl)
@[simp] theorem tuple_t (ds : List D) : biD .tuple [.tup ds] = some (.tup ds) := (rfl)
@[simp] theorem sum_l (ds : List D) : biD .sum [.lst ds] = (intsOf ds).map fun ns => .int ns.sum := (rfl)
@[simp] theorem neg_i (a : Int) : biD .neg [.int a] = some (.int (-a)) := (rfl)
@[simp] theorem max_i (a b : Int) : biD .max2 [.int a, .int b] = some (.int (if b > a then b else a)) := (rfl)
@[simp] theorem idx_l (ds : List D) : biD .indexTrue [.lst ds] = (boolsOf ds).bind fun bs => if bs.any id then some (.int (bs.findIdx id)) else none := (rfl)
@[simp] theorem it_t (ds : List D) : itemsD (.tup ds) = some ds := (rfl)
@[simp] theorem it_k (ds : List D) : itemsD (.ktup ds) = some ds := (rfl)
@[simp] theorem it_l (ds : List D) : itemsD (.lst ds) = some ds := (rfl)
@[simp] theorem it_s (z : List Nat) : itemsD (.str z) = some (z.map fun c => .str [c]) := (rfl)
@[simp] theorem still_d (x y : D) (M : Mem) : still (.d x) y M = true := (rfl)
@[simp] theorem mk_0 (ds : List D) (M : Mem) : mkL 0 ds M = .ok (.d (.lst ds)) M := (rfl)
@[simp] theorem mk_1 (ds : List D) (M : Mem) : mkL 1 ds M = .ok (.r M.length) (M ++ [.lst ds]) := (rfl)
@[simp] theorem rev_t (ds : List D) : revD (.tup ds) = some (.tup ds.reverse) := (rfl)
@[simp] theorem rev_l (ds : List D) : revD (.lst ds) = some (.lst ds.reverse) := (rfl)
@[simp] theorem put_eq (σ : Sl) (i : Nat) (w : W) : σ.put i w = σ.set i (some w) := (rfl)
@[simp] theorem bT_nm (i : Nat) (x : D) (σ : Sl) : bindT (.nm i) x σ = some (σ.set i (some (.d x))) := by simp only [bindT, put_eq]
@[simp] theorem bT_tup (ts : List Tg) (ds : List D) (σ : Sl) : bindT (.tup ts) (.tup ds) σ = bindTs ts ds σ := by simp only [bindT]
@[simp] theorem bTs_0 (σ : Sl) : bindTs [] [] σ = some σ := by simp only [bindTs]
@[simp] theorem bTs_1 (t : Tg) (ts : List Tg) (x : D) (xs : List D) (σ : Sl) : bindTs (t :: ts) (x :: xs) σ = (bindT t x σ).bind fun σ' => bindTs ts xs σ' := by simp only [bindTs]
@[simp] theorem vars_nm (i : Nat) : Tg.vars (.nm i) = [i] := by simp only [Tg.vars]
@[simp] theorem vars_tup (ts : List Tg) : Tg.vars (.tup ts) = Tg.varss ts := by simp only [Tg.vars]
@[simp] theorem varss_0 : Tg.varss [] = [] := by simp only [Tg.varss]
@[simp] theorem varss_1 (t : Tg) (ts : List Tg) : Tg.varss (t :: ts) = Tg.vars t ++ Tg.varss ts := by simp only [Tg.varss]
@[simp] theorem wipe_0 (σ : Sl) : wipe σ [] = σ := by simp only [wipe]
@[simp] theorem wipe_1 (σ : Sl) (v : Nat) (vs : List Nat) : wipe σ (v :: vs) = (wipe σ vs).set v none := by simp only [wipe]
@[simp] theorem mapM_0 (M : Mem) : List.mapM (asD M) [] = some [] := (rfl)
@[simp] theorem mapM_1 (M : Mem) (w : W) (ws : List W) : List.mapM (asD M) (w :: ws) = (asD M w).bind fun x => (List.mapM (asD M) ws).bind fun xs => some (x :: xs) := by simp [List.mapM_cons]
@[simp] theorem putAll_0 (σ : Sl) : putAll [] [] σ = some σ := (rfl)
@[simp] theorem putAll_1 (i : Nat) (is : List Nat) (w : W) (ws : List W) (σ : Sl) : putAll (i :: is) (w :: ws) σ = putAll is ws (σ.put i w) := (rfl)
/-! ### comprehensions -/
/-- one that changes nothing -/
theorem comp_pure {α : Type} {chk : Mem → Bool} {bind : D → Option Sl} {cond elt : Sl → Mem → R W} {M : Mem} (t : α → D) (σx : α → Sl) (p : α → Bool) (g : α → D) (hc : chk M = true) : ∀ (ys : List α) (_ : ∀ y ∈ ys, bind (t y) = some (σx y) ∧ cond (σx y) M = .ok (.d (.bl (p y))) M ∧ (p y = true → elt (σx y) M = .ok (.d (g y)) M)),
    compLoop chk bind cond elt (ys.map t) M = .ok ((ys.filter p).map g) M
  | [], _ => by simp [compLoop, hc]
  | y :: ys, h => by
    obtain ⟨h1, h2, h3⟩ := h y (by simp)
    have ih := comp_pure t σx p g hc ys fun z hz => h z (by simp [hz])
    simp only [List.map_cons, compLoop, hc, if_true, h1, h2]
    cases hp : p y with
    | true => simp only [h3 hp, ih]; simp [List.filter_cons, hp]
    | false => simp only [ih]; simp [List.filter_cons, hp]
theorem comp_all {α : Type} {chk : Mem → Bool} {bind : D → Option Sl} {elt : Sl → Mem → R W} {M : Mem} (t : α → D) (σx : α → Sl) (g : α → D) (hc : chk M = true) (ys : List α) (hl : ys.length ≤ line) (h : ∀ y ∈ ys, bind (t y) = some (σx y) ∧ elt (σx y) M = .ok (.d (g y)) M) :
    compAll chk bind (fun _ M => .ok (.d (.bl true)) M) elt (ys.map t) M = .ok (ys.map g) M := by
  unfold compAll
  rw [if_pos (by simpa using hl), comp_pure t σx (fun _ => true) g hc ys fun y hy => ⟨(h y hy).1, rfl, fun _ => (h y hy).2⟩, List.filter_eq_self.mpr fun _ _ => rfl]
theorem cond_none {Γ : Nat → List W → Mem → R W} : evCond Γ none = fun _ M => .ok (.d (.bl true)) M := by funext σ M; simp
/-- one that goes from state to state -/
theorem comp_inv {chk : Mem → Bool} {bind : D → Option Sl} {elt : Sl → Mem → R W} (Inv : Mem → Prop) (P : D → Prop) : ∀ (xs : List D) (M : Mem), (∀ M, Inv M → chk M = true) → (∀ x ∈ xs, ∃ σ, bind x = some σ ∧ ∀ M, Inv M → ∃ y M', elt σ M = .ok (.d y) M' ∧ Inv M' ∧ P y) → Inv M →
    ∃ ys M', compLoop chk bind (fun _ M => .ok (.d (.bl true)) M) elt xs M = .ok ys M' ∧ Inv M' ∧ ys.length = xs.length ∧ ∀ y ∈ ys, P y
  | [], M, hc, _, hM => ⟨[], M, by simp [compLoop, hc M hM], hM, rfl, by simp⟩
  | x :: xs, M, hc, h, hM => by
    obtain ⟨σ, h1, h2⟩ := h x (by simp)
    obtain ⟨y, M1, h3, h4, h5⟩ := h2 M hM
    obtain ⟨ys, M2, h6, h7, h8, h9⟩ := comp_inv Inv P xs M1 hc (fun z hz => h z (by simp [hz])) h4
    refine ⟨y :: ys, M2, by simp only [compLoop, hc M hM, if_true, h1, h3, h6], h7, by simp [h8], fun z hz => ?_⟩
    rcases List.mem_cons.mp hz with e | e
    · subst e; exact h5
    · exact h9 z e
end G

set_option Elab.async false
set_option linter.all false
set_option autoImplicit false
set_option maxRecDepth 100000
set_option maxHeartbeats 4000000
/-! Values, steps, specifications. -/
namespace G
inductive Kd where
  | non | num | txt
  deriving DecidableEq, Repr
def Kd.s : Kd → List Nat
  | .non => [110, 111, 110, 101]
  | .num => [110, 117, 109, 98, 101, 114]
  | .txt => [116, 101, 120, 116]
inductive Vl where
  | non | num (n : Nat) | txt (z : List Nat)
  deriving DecidableEq
def Vl.d : Vl → D
  | .non => .non
  | .num n => .int n
  | .txt z => .str z
def Vl.kd : Vl → Kd
  | .non => .non
  | .num _ => .num
  | .txt _ => .txt
def lettB (z : List Nat) : Bool := z.all fun c => decide (97 ≤ c ∧ c ≤ 122)
def Vl.ok : Vl → Prop
  | .non => True
  | .num n => n ≤ 999999999
  | .txt z => 1 ≤ z.length ∧ z.length ≤ 12 ∧ lettB z = true
inductive Nm where
  | number | text | length | spelling
  deriving DecidableEq
def Nm.s : Nm → List Nat
  | .number => [110, 117, 109, 98, 101, 114]
  | .text => [116, 101, 120, 116]
  | .length => [108, 101, 110, 103, 116, 104]
  | .spelling => [115, 112, 101, 108, 108, 105, 110, 103]
inductive Stp where
  | rank (f : Nat) (gs : List (List Kd))
  | dir (nm : Nm) (f : Nat) (desc : Bool)
  deriving DecidableEq
def dirS : Bool → List Nat
  | true => [100, 101, 115, 99]
  | false => [97, 115, 99]
@[simp] theorem vd_non : Vl.d .non = .non := (rfl)
@[simp] theorem vd_num (n : Nat) : Vl.d (.num n) = .int n := (rfl)
@[simp] theorem vd_txt (z : List Nat) : Vl.d (.txt z) = .str z := (rfl)
@[simp] theorem vk_non : Vl.kd .non = .non := (rfl)
@[simp] theorem vk_num (n : Nat) : Vl.kd (.num n) = .num := (rfl)
@[simp] theorem vk_txt (z : List Nat) : Vl.kd (.txt z) = .txt := (rfl)
def grD (g : List Kd) : D := .tup (g.map fun k => .str k.s)
def gsD (gs : List (List Kd)) : D := .tup (gs.map grD)
def Stp.d : Stp → D
  | .rank f gs => .tup [.str [114, 97, 110, 107], .int f, gsD gs]
  | .dir nm f ds => .tup [.str nm.s, .int f, .str (dirS ds)]
def Stp.fld : Stp → Nat
  | .rank f _ => f
  | .dir _ f _ => f
/-- the thirteen orders of the kinds -/
def ranks : List (List (List Kd)) := [[[.non], [.num], [.txt]], [[.non], [.txt], [.num]], [[.num], [.non], [.txt]], [[.num], [.txt], [.non]], [[.txt], [.non], [.num]], [[.txt], [.num], [.non]],
  [[.non], [.num, .txt]], [[.num], [.non, .txt]], [[.txt], [.non, .num]], [[.non, .num], [.txt]], [[.non, .txt], [.num]], [[.num, .txt], [.non]], [[.non, .num, .txt]]]
def Stp.ok (w : Nat) : Stp → Prop
  | .rank f gs => f < w ∧ gs ∈ ranks
  | .dir _ f _ => f < w
def stepsD (ss : List Stp) : D := .tup (ss.map Stp.d)
def specD (w : Nat) (ss : List Stp) : D := .tup [.int w, stepsD ss]
def recD (r : List Vl) : D := .tup (r.map Vl.d)
def SpecOk (w : Nat) (ss : List Stp) : Prop := (w = 1 ∨ w = 2) ∧ ss.length ≤ 6 ∧ ∀ s ∈ ss, s.ok w
def RecOk (w : Nat) (r : List Vl) : Prop := r.length = w ∧ ∀ v ∈ r, v.ok

/-! ### comparing -/
def sgI (a b : Int) : Int := b2i (decide (b < a)) - b2i (decide (a < b))
def sgS (a b : List Nat) : Int := b2i (ltS b a) - b2i (ltS a b)
def rkOf (gs : List (List Kd)) (k : Kd) : Nat := gs.findIdx fun g => g.contains k
def spell : Vl → List Nat
  | .non => []
  | .num n => digits n
  | .txt z => z
def base : Nm → Vl → Vl → Int
  | .number, .num a, .num b => sgI a b
  | .text, .txt a, .txt b => sgS a b
  | .length, .txt a, .txt b => sgI a.length b.length
  | .spelling, a, b => if a.kd = .non ∨ b.kd = .non then 0 else sgS (spell a) (spell b)
  | _, _, _ => 0
def stepR : Stp → Vl → Vl → Int
  | .rank _ gs, a, b => sgI (rkOf gs a.kd) (rkOf gs b.kd)
  | .dir nm _ ds, a, b => if ds then 0 - base nm a b else base nm a b
def fldOf (r : List Vl) (f : Nat) : Vl := (r[f]?).getD .non
def cmpR : List Stp → List Vl → List Vl → Int
  | [], _, _ => 0
  | s :: ss, a, b => if stepR s (fldOf a s.fld) (fldOf b s.fld) ≠ 0 then stepR s (fldOf a s.fld) (fldOf b s.fld) else cmpR ss a b
def revS : Stp → Stp
  | .rank f gs => .rank f gs.reverse
  | .dir nm f ds => .dir nm f (!ds)

/-! ### the order of texts -/
theorem ltZ_irrefl : ∀ a : List Nat, ltS a a = false
  | [] => rfl
  | x :: a => by simp [ltS, ltZ_irrefl a]
theorem ltS_asymm : ∀ a b : List Nat, ltS a b = true → ltS b a = false
  | [], [], h => by simp [ltS] at h
  | [], _ :: _, _ => rfl
  | _ :: _, [], h => by simp [ltS] at h
  | x :: a, y :: b, h => by
    simp only [ltS] at h ⊢
    by_cases e : x = y
    · subst e; simp only [if_true] at h ⊢; exact ltS_asymm a b h
    · rw [if_neg e] at h
      rw [if_neg (Ne.symm e)]
      simp at h ⊢; omega
theorem ltS_total : ∀ a b : List Nat, ltS a b = false → ltS b a = false → a = b
  | [], [], _, _ => rfl
  | [], _ :: _, h, _ => by simp [ltS] at h
  | _ :: _, [], _, h => by simp [ltS] at h
  | x :: a, y :: b, h1, h2 => by
    simp only [ltS] at h1 h2
    by_cases e : x = y
    · subst e; simp only [if_true] at h1 h2; rw [ltS_total a b h1 h2]
    · rw [if_neg e] at h1
      rw [if_neg (Ne.symm e)] at h2
      simp at h1 h2; omega
theorem ltZ_trans : ∀ a b c : List Nat, ltS a b = true → ltS b c = true → ltS a c = true
  | [], [], _, h, _ => by simp [ltS] at h
  | [], _ :: _, [], _, h => by simp [ltS] at h
  | [], _ :: _, _ :: _, _, _ => rfl
  | _ :: _, [], _, h, _ => by simp [ltS] at h
  | _ :: _, _ :: _, [], _, h => by simp [ltS] at h
  | x :: a, y :: b, z :: c, h1, h2 => by
    simp only [ltS] at h1 h2 ⊢
    by_cases e : x = y
    · subst e
      simp only [if_true] at h1
      by_cases e2 : x = z
      · subst e2; simp only [if_true] at h2 ⊢; exact ltZ_trans a b c h1 h2
      · rw [if_neg e2] at h2 ⊢; exact h2
    · rw [if_neg e] at h1
      by_cases e2 : y = z
      · subst e2; rw [if_neg e]; exact h1
      · rw [if_neg e2] at h2
        simp at h1 h2
        rw [if_neg (by omega)]
        simp; omega
theorem sgS_neg (a b : List Nat) : sgS b a = - sgS a b := by unfold sgS; omega
theorem sgI_neg (a b : Int) : sgI b a = - sgI a b := by unfold sgI; omega
theorem base_neg (nm : Nm) (a b : Vl) : base nm b a = - base nm a b := by
  cases nm <;> cases a <;> cases b <;> first | rfl | exact sgI_neg _ _ | exact sgS_neg _ _
theorem stepR_neg (s : Stp) (a b : Vl) : stepR s b a = - stepR s a b := by
  cases s with
  | rank f gs => exact sgI_neg _ _
  | dir nm f ds =>
    simp only [stepR, base_neg nm a b]
    cases ds <;> simp
theorem cmpR_neg : ∀ (ss : List Stp) (a b : List Vl), cmpR ss b a = - cmpR ss a b
  | [], _, _ => rfl
  | s :: ss, a, b => by
    simp only [cmpR, stepR_neg s (fldOf a s.fld) (fldOf b s.fld), cmpR_neg ss a b]
    by_cases h : stepR s (fldOf a s.fld) (fldOf b s.fld) = 0
    · simp [h]
    · rw [if_pos (by omega), if_pos h]
theorem cmpR_self (ss : List Stp) (a : List Vl) : cmpR ss a a = 0 := by have := cmpR_neg ss a a; omega
theorem cmpR_append : ∀ (ss tt : List Stp) (a b : List Vl), cmpR (ss ++ tt) a b = if cmpR ss a b ≠ 0 then cmpR ss a b else cmpR tt a b
  | [], _, _, _ => by simp [cmpR]
  | s :: ss, tt, a, b => by
    simp only [List.cons_append, cmpR]
    by_cases h : stepR s (fldOf a s.fld) (fldOf b s.fld) = 0
    · simp only [h, ne_eq, not_true_eq_false, if_false]; exact cmpR_append ss tt a b
    · simp [h]
theorem stepR_rev {w : Nat} (s : Stp) (h : s.ok w) (a b : Vl) : stepR (revS s) a b = - stepR s a b := by
  cases s with
  | rank f gs =>
    have hg : gs ∈ ranks := h.2
    show sgI (rkOf gs.reverse a.kd) (rkOf gs.reverse b.kd) = - sgI (rkOf gs a.kd) (rkOf gs b.kd)
    have key : ∀ gs ∈ ranks, ∀ k l : Kd, sgI (rkOf gs.reverse k) (rkOf gs.reverse l) = - sgI (rkOf gs k) (rkOf gs l) := by
      intro gs hg k l
      simp only [ranks, List.mem_cons, List.not_mem_nil, or_false] at hg
      rcases hg with h | h | h | h | h | h | h | h | h | h | h | h | h <;> subst h <;> cases k <;> cases l <;> decide
    exact key gs hg _ _
  | dir nm f ds =>
    simp only [revS, stepR]
    cases ds <;> simp
theorem revS_fld (s : Stp) : (revS s).fld = s.fld := by cases s <;> rfl
theorem cmpR_rev {w : Nat} : ∀ (ss : List Stp) (_ : ∀ s ∈ ss, s.ok w) (a b : List Vl), cmpR (ss.map revS) a b = - cmpR ss a b
  | [], _, _, _ => rfl
  | s :: ss, h, a, b => by
    simp only [List.map_cons, cmpR, revS_fld, stepR_rev s (h s (by simp)), cmpR_rev ss (fun s hs => h s (by simp [hs])) a b]
    by_cases h : stepR s (fldOf a s.fld) (fldOf b s.fld) = 0
    · simp [h]
    · rw [if_pos (by omega), if_pos h]
theorem revS_ok {w : Nat} {s : Stp} (h : s.ok w) : (revS s).ok w := by
  cases s with
  | rank f gs =>
    refine ⟨h.1, ?_⟩
    have hg : gs ∈ ranks := h.2
    have key : ∀ gs ∈ ranks, gs.reverse ∈ ranks := by decide
    exact key gs hg
  | dir nm f ds => exact h
theorem revS_rev (s : Stp) : revS (revS s) = s := by cases s <;> simp [revS]
end G

set_option Elab.async false
set_option linter.all false
set_option autoImplicit false
set_option maxRecDepth 100000
set_option maxHeartbeats 4000000
/-! What the defs of records and specs do. -/
namespace G
theorem boolsOf_map : ∀ (bs : List Bool), boolsOf (bs.map .bl) = some bs
  | [] => rfl
  | b :: bs => by simp [boolsOf, boolsOf_map bs]
@[simp] theorem boolsOf_map' {α : Type} (g : α → Bool) (xs : List α) : boolsOf (xs.map fun x => D.bl (g x)) = some (xs.map g) := by
  have := boolsOf_map (xs.map g)
  simpa [List.map_map, Function.comp_def] using this
theorem letters_in {c : Nat} (h : 97 ≤ c ∧ c ≤ 122) : ([97, 98, 99, 100, 101, 102, 103, 104, 105, 106, 107, 108, 109, 110, 111, 112, 113, 114, 115, 116, 117, 118, 119, 120, 121, 122] : List Nat).contains c = true := by
  obtain ⟨h1, h2⟩ := h
  simp only [List.contains_iff_mem, List.mem_cons, List.not_mem_nil, or_false]
  omega
@[simp] theorem take_self (M : Mem) : M.take M.length = M := List.take_length
theorem dat_str {z : List Nat} (h : (z.all fun c => decide (c < 1114112)) = true) : D.dat (.str z) = true := by
  simp only [D.dat, D.okd]; exact h
theorem lett_dat {z : List Nat} (h : lettB z = true) : D.dat (.str z) = true := by
  refine dat_str ?_
  simp only [lettB, List.all_eq_true, decide_eq_true_eq] at h ⊢
  intro c hc; have := h c hc; omega
@[simp] theorem dat_kd (k : Kd) : D.dat (.str k.s) = true := by cases k <;> rfl
@[simp] theorem dat_nm (k : Nm) : D.dat (.str k.s) = true := by cases k <;> rfl
@[simp] theorem dat_dir (k : Bool) : D.dat (.str (dirS k)) = true := by cases k <;> rfl

section
variable {k : Nat} {M : Mem}
theorem c_kind_of (v : Vl) (h : v.ok) : call FT (k + 1) F_kind_of [.d v.d] M = .ok (.d (.str v.kd.s)) M := by
  rw [call_fn (fn := fn_kind_of) rfl rfl]
  cases v with
  | non => simp [fn_kind_of, b_kind_of, entry, Kd.s]
  | num n =>
    have h' : n ≤ 999999999 := h
    have h2 : (n : Int) ≤ 999999999 := by omega
    have h3 : (0 : Int) ≤ n := by omega
    simp [fn_kind_of, b_kind_of, entry, Kd.s, chW, h2, h3]
  | txt z =>
    obtain ⟨h1, h2, h3⟩ : 1 ≤ z.length ∧ z.length ≤ 12 ∧ lettB z = true := h
    have h4 : z.length ≤ line := by unfold line; omega
    have h5 : (1 : Int) ≤ z.length := by omega
    have h6 : (z.length : Int) ≤ 12 := by omega
    simp [fn_kind_of, b_kind_of, entry, Kd.s, chW, len_s, h4, h5, h6]
    rw [cond_none, comp_all (fun c => D.str [c]) (fun c => [some (.d (.str z)), some (.d (.str [c]))]) (fun c => .bl true) (by simp) z h4]
    · have e : boolsOf (List.map (fun c => D.bl true) z) = some (z.map fun _ => true) := boolsOf_map' _ _
      simp [e]
    · intro c hc
      simp only [lettB, List.all_eq_true, decide_eq_true_eq] at h3
      have := letters_in (h3 c hc)
      simp
      simpa using this
theorem str_n {n : Nat} (h : n ≤ 999999999) : biD .str [.int n] = some (.str (digits n)) := by
  have := str_i (i := n) (by omega) (by omega)
  rw [this, Int.toNat_natCast]
theorem c_spelling_of (v : Vl) (h : v.ok) (hn : v.kd ≠ .non) : call FT (k + 1) F_spelling_of [.d v.d] M = .ok (.d (.str (spell v))) M := by
  rw [call_fn (fn := fn_spelling_of) rfl rfl]
  cases v with
  | non => exact absurd rfl hn
  | num n =>
    have h' : n ≤ 999999999 := h
    simp [fn_spelling_of, b_spelling_of, entry, str_n h', spell]
  | txt z => simp [fn_spelling_of, b_spelling_of, entry, spell]
theorem c_sign_i (a b : Int) : call FT (k + 1) F_sign [.d (.int a), .d (.int b)] M = .ok (.d (.int (sgI a b))) M := by
  rw [call_fn (fn := fn_sign) rfl rfl]
  simp [fn_sign, b_sign, entry, sgI]
theorem c_sign_s (a b : List Nat) : call FT (k + 1) F_sign [.d (.str a), .d (.str b)] M = .ok (.d (.int (sgS a b))) M := by
  rw [call_fn (fn := fn_sign) rfl rfl]
  simp [fn_sign, b_sign, entry, sgS]
theorem kd_eq (a b : Kd) : (a.s == b.s) = decide (a = b) := by cases a <;> cases b <;> rfl
theorem any_kd (g : List Kd) (x : Kd) : ((g.map fun k => D.str k.s).any fun y => D.eqv y (.str x.s)) = g.contains x := by
  induction g with
  | nil => rfl
  | cons a g ih =>
    simp only [List.map_cons, List.any_cons, eqv_ss, ih, kd_eq, List.contains_cons]
    congr 1
    by_cases h : a = x
    · subst h; simp
    · simp [h, Ne.symm h, beq_eq_false_iff_ne.mpr (Ne.symm h)]
theorem rk_any : ∀ gs ∈ ranks, ∀ x : Kd, (gs.any fun g => g.contains x) = true := by
  intro gs hg x; revert gs; cases x <;> decide
theorem findIdx_map {α : Type} (f : α → Bool) : ∀ xs : List α, (xs.map f).findIdx id = xs.findIdx f
  | [] => rfl
  | x :: xs => by simp [List.findIdx_cons, findIdx_map f xs]
theorem in_gr (g : List Kd) (x : Kd) : inD (.str x.s) (grD g) = some (g.contains x) := by
  unfold grD
  rw [in_t rfl (by simp [List.all_eq_true]), any_kd]
theorem ranks_len : ∀ gs ∈ ranks, gs.length ≤ line := by
  intro gs hg
  have : gs.length ≤ 3 := by revert gs; decide
  unfold line; omega
theorem c_rank (gs : List (List Kd)) (hg : gs ∈ ranks) (x : Kd) : call FT (k + 1) F_rank [.d (gsD gs), .d (.str x.s)] M = .ok (.d (.int (rkOf gs x))) M := by
  rw [call_fn (fn := fn_rank) rfl rfl]
  simp [fn_rank, b_rank, entry, gsD]
  rw [cond_none, comp_all grD (fun g => [some (.d (gsD gs)), some (.d (.str x.s)), some (.d (grD g))]) (fun g => .bl (g.contains x)) (by simp) gs (ranks_len gs hg)]
  · have e : ((gs.map fun g => g.contains x).any id) = true := by
      have := rk_any gs hg x
      simpa [List.any_map, Function.comp_def] using this
    simp only [bind_ok, mk_0, asD_d, ofO_some, idx_l, boolsOf_map', Option.bind_some, e, if_true, findIdx_map, out_ok, then_ret, fin_d, take_self]
    rfl
  · intro g hg
    simp [in_gr, gsD]
end
end G

set_option Elab.async false
set_option linter.all false
set_option autoImplicit false
set_option maxRecDepth 100000
set_option maxHeartbeats 4000000
/-! What the defs of specs do. -/
namespace G
theorem dat_tup {ds : List D} (h : ∀ x ∈ ds, D.okd 10 x = true) : D.dat (.tup ds) = true := by
  simp only [D.dat, D.okd, List.all_eq_true]
  exact fun x hx => okd_mono (by omega) (h x hx)
@[simp] theorem kd_dec (a b : Kd) : (a.s == b.s) = decide (a = b) := kd_eq a b
section
variable {k : Nat} {M : Mem}
theorem str2_dat (a b : List Nat) (ha : D.dat (.str a) = true) (hb : D.dat (.str b) = true) : D.dat (.tup [.str a, .str b]) = true := by
  refine dat_tup fun x hx => ?_
  simp only [List.mem_cons, List.not_mem_nil, or_false] at hx
  rcases hx with h | h <;> subst h
  · exact ha
  · exact hb
theorem eq_ss {a b : List Nat} (ha : D.dat (.str a) = true) (hb : D.dat (.str b) = true) : eqD (.str a) (.str b) = some (.bl (a == b)) := by rw [eqD_of ha hb, eqv_ss]
theorem c_spell_n {n : Nat} (h : n ≤ 999999999) : call FT (k + 1) F_spelling_of [.d (.int n)] M = .ok (.d (.str (digits n))) M := c_spelling_of (.num n) h (by simp)
theorem c_spell_t (z : List Nat) : call FT (k + 1) F_spelling_of [.d (.str z)] M = .ok (.d (.str z)) M := by
  rw [call_fn (fn := fn_spelling_of) rfl rfl]
  simp [fn_spelling_of, b_spelling_of, entry]
theorem c_step_result (s : Stp) (w : Nat) (hs : s.ok w) (a b : Vl) (ha : a.ok) (hb : b.ok) : call FT (k + 2) F_step_result [.d s.d, .d a.d, .d b.d] M = .ok (.d (.int (stepR s a b))) M := by
  rw [call_fn (fn := fn_step_result) rfl rfl]
  have ka := c_kind_of (k := k) (M := M) a ha
  have kb := c_kind_of (k := k) (M := M) b hb
  cases s with
  | rank f gs =>
    have hg : gs ∈ ranks := hs.2
    have e1 : eqD (.str [114, 97, 110, 107]) (.str [114, 97, 110, 107]) = some (.bl true) := by rfl
    simp [fn_step_result, b_step_result, entry, Stp.d, ka, kb, e1, c_rank gs hg, c_sign_i, stepR]
  | dir nm f ds =>
    have hdd : eqD (.str (dirS ds)) (.str [100, 101, 115, 99]) = some (.bl ds) := by cases ds <;> rfl
    have r0 : eqD (.str nm.s) (.str [114, 97, 110, 107]) = some (.bl false) := by cases nm <;> rfl
    have r1 : eqD (.str nm.s) (.str [110, 117, 109, 98, 101, 114]) = some (.bl (decide (nm = .number))) := by cases nm <;> rfl
    have r2 : eqD (.str nm.s) (.str [116, 101, 120, 116]) = some (.bl (decide (nm = .text))) := by cases nm <;> rfl
    have r3 : eqD (.str nm.s) (.str [108, 101, 110, 103, 116, 104]) = some (.bl (decide (nm = .length))) := by cases nm <;> rfl
    have r4 : eqD (.str nm.s) (.str [115, 112, 101, 108, 108, 105, 110, 103]) = some (.bl (decide (nm = .spelling))) := by cases nm <;> rfl
    have e2 : ∀ x y : Kd, eqD (.tup [.str a.kd.s, .str b.kd.s]) (.tup [.str x.s, .str y.s]) = some (.bl (decide (a.kd = x) && decide (b.kd = y))) := fun x y => by
      rw [eqD_of (str2_dat _ _ (dat_kd _) (dat_kd _)) (str2_dat _ _ (dat_kd _) (dat_kd _))]; simp
    have n2 : inD (.str [110, 111, 110, 101]) (.tup [.str a.kd.s, .str b.kd.s]) = some (decide (a.kd = .non) || decide (b.kd = .non)) := by
      show inD (.str Kd.non.s) _ = _
      rw [in_t rfl (by simp)]; simp
    have e2n : eqD (.tup [.str a.kd.s, .str b.kd.s]) (.tup [.str [110, 117, 109, 98, 101, 114], .str [110, 117, 109, 98, 101, 114]]) = _ := e2 .num .num
    have e2t : eqD (.tup [.str a.kd.s, .str b.kd.s]) (.tup [.str [116, 101, 120, 116], .str [116, 101, 120, 116]]) = _ := e2 .txt .txt
    have la : ∀ z, a = .txt z → z.length ≤ line := fun z e => by subst e; have := ha.2.1; unfold line; omega
    have lb : ∀ z, b = .txt z → z.length ≤ line := fun z e => by subst e; have := hb.2.1; unfold line; omega
    have na : ∀ n, a = .num n → n ≤ 999999999 := fun n e => by subst e; exact ha
    have nb : ∀ n, b = .num n → n ≤ 999999999 := fun n e => by subst e; exact hb
    simp only [fn_step_result, b_step_result, entry, Stp.d, List.map_cons, List.map_nil, List.length_cons, List.length_nil, List.replicate, List.cons_append, List.nil_append, Nat.reduceAdd, Nat.reduceSub, x_ss, x_asgT, x_v, List.getElem?_cons_zero, List.getElem?_cons_succ, out_ok, asD_d, ofOut_some, unW_t, bTs_1, bT_nm, Option.bind_some, bTs_0, List.set_cons_succ, List.set_cons_zero, then_nx,
      x_asg, x_tup, x_ds, x_call, x_es, x_es0, bind_ok, ka, kb, x_ds0, consW_d, put_eq, x_iff, x_op, x_c, ofO_some, o_eq, r0, r1, r2, r3, r4, e2n, e2t, n2, ifO_bl, Bool.false_eq_true, if_false, x_ss0, x_and, x_and1, x_and2, ifR_bl, ok_and, then_ite, o_notin, Option.map_some, x_ret, x_ife, hdd, o_sub]
    have hr : ∀ r : Int, (if ds = true then R.ok (W.d (.int (0 - r))) M else .ok (.d (.int r)) M) = .ok (.d (.int (if ds = true then 0 - r else r))) M := fun r => by cases ds <;> rfl
    cases nm <;> cases a <;> cases b <;> simp [hdd, base, c_sign_i, c_sign_s, len_s, la, lb, na, nb, c_spell_n, c_spell_t, spell, fin_ite, stepR, apply_ite] <;> cases ds <;> simp

/-! ### compared -/
theorem rec_at {r : List Vl} {f : Nat} (h : f < r.length) : at_ (r.map Vl.d) (f : Int) = some (fldOf r f).d := by
  rw [at_nat, List.getElem?_map, fldOf, List.getElem?_eq_getElem h]; rfl
theorem fld_ok {r : List Vl} {w f : Nat} (hr : RecOk w r) (h : f < w) : (fldOf r f).ok := by
  have hl : f < r.length := by rw [hr.1]; exact h
  rw [fldOf, List.getElem?_eq_getElem hl]
  exact hr.2 _ (List.getElem_mem hl)
theorem stp_at1 (s : Stp) : ixD s.d (.int 1) = some (.int s.fld) := by cases s <;> rfl
theorem stp_ok_fld {s : Stp} {w : Nat} (h : s.ok w) : s.fld < w := by cases s <;> first | exact h.1 | exact h
theorem forLoop_steps {w : Nat} {a b : List Vl} (ha : RecOk w a) (hb : RecOk w b) (x0 : W) : ∀ (ss : List Stp) (_ : ∀ s ∈ ss, s.ok w) (y z : Option W),
    fin M.length ((forLoop (fun _ => true) (fun x σ => bindT (.nm 3) x σ) (evSs (call FT (k + 2)) [.asg (.nm 4) (.call F_step_result [(.v 3), (.op .ix (.v 1) (.op .ix (.v 3) (.c (.int 1)))), (.op .ix (.v 2) (.op .ix (.v 3) (.c (.int 1))))]),
      .iff (.op .ne (.v 4) (.c (.int 0))) [.ret (.v 4)] []]) (ss.map Stp.d) [some x0, some (.d (recD a)), some (.d (recD b)), y, z] M).andThen fun σ M => evSs (call FT (k + 2)) [.ret (.c (.int 0))] σ M) = .ok (.d (.int (cmpR ss a b))) M
  | [], _, y, z => by simp [forLoop, cmpR]
  | s :: ss, h, y, z => by
    have hs := h s (by simp)
    have hf := stp_ok_fld hs
    have ih := forLoop_steps ha hb x0 ss (fun s hs => h s (by simp [hs])) (some (.d s.d)) (some (.d (.int 0)))
    have e1 : at_ (a.map Vl.d) (s.fld : Int) = some (fldOf a s.fld).d := rec_at (by rw [ha.1]; exact hf)
    have e2 : at_ (b.map Vl.d) (s.fld : Int) = some (fldOf b s.fld).d := rec_at (by rw [hb.1]; exact hf)
    have e3 := c_step_result (k := k) (M := M) s w hs (fldOf a s.fld) (fldOf b s.fld) (fld_ok ha hf) (fld_ok hb hf)
    simp only [List.map_cons, forLoop, if_true]
    simp [stp_at1, recD, e1, e2, e3, cmpR]
    by_cases h0 : stepR s (fldOf a s.fld) (fldOf b s.fld) = 0
    · simp [h0]; simpa [recD] using ih
    · simp [h0]
theorem c_compared {w : Nat} {ss : List Stp} (hs : ∀ s ∈ ss, s.ok w) {a b : List Vl} (ha : RecOk w a) (hb : RecOk w b) : call FT (k + 3) F_compared [.d (stepsD ss), .d (recD a), .d (recD b)] M = .ok (.d (.int (cmpR ss a b))) M := by
  rw [call_fn (fn := fn_compared) rfl rfl]
  have e := forLoop_steps (k := k) (M := M) ha hb (.d (stepsD ss)) ss hs none none
  have e2 : still (.d (stepsD ss)) (stepsD ss) = fun _ => true := by funext M; rfl
  simp [fn_compared, b_compared, entry]
  simp [stepsD] at e e2 ⊢
  rw [e2]
  simpa using e
end
end G

set_option Elab.async false
set_option linter.all false
set_option autoImplicit false
set_option maxRecDepth 100000
set_option maxHeartbeats 4000000
/-! is_spec and the rest of specs. -/
namespace G
section
variable {k : Nat} {M : Mem}
theorem evs_are_groups (Γ : Nat → List W → Mem → R W) : ∀ gs ∈ ranks, evSs Γ b_are_groups (entry fn_are_groups [.d (gsD gs)]) M = .ret (.d (.bl true)) M := by
  intro gs hg
  simp only [ranks, List.mem_cons, List.not_mem_nil, or_false] at hg
  rcases hg with h | h | h | h | h | h | h | h | h | h | h | h | h <;> subst h <;> rfl
theorem c_are_groups (gs : List (List Kd)) (hg : gs ∈ ranks) : call FT (k + 1) F_are_groups [.d (gsD gs)] M = .ok (.d (.bl true)) M := by
  rw [call_fn (fn := fn_are_groups) rfl rfl]
  have := evs_are_groups (M := M) (call FT k) gs hg
  rw [show fn_are_groups.body = b_are_groups from rfl, this]
  simp
theorem c_is_step (w : Nat) (hw : w = 1 ∨ w = 2) (s : Stp) (hs : s.ok w) : call FT (k + 2) F_is_step [.d s.d, .d (.int w)] M = .ok (.d (.bl true)) M := by
  rw [call_fn (fn := fn_is_step) rfl rfl]
  cases s with
  | rank f gs =>
    obtain ⟨h1, h2⟩ := hs
    have e1 : eqD (.str [114, 97, 110, 107]) (.str [114, 97, 110, 107]) = some (.bl true) := by rfl
    have h3 : (0 : Int) ≤ f := by omega
    have h4 : (f : Int) < w := by omega
    simp [fn_is_step, b_is_step, entry, Stp.d, gsD, chW, e1, h1]
    have := c_are_groups (k := k) (M := M) gs h2
    rw [gsD] at this
    rw [this]; simp
  | dir nm f ds =>
    have hf : f < w := hs
    have : evSs (call FT (k + 1)) fn_is_step.body (entry fn_is_step [.d (Stp.dir nm f ds).d, .d (.int w)]) M = .ret (.d (.bl true)) M := by
      rcases hw with rfl | rfl
      · obtain rfl : f = 0 := by omega
        cases nm <;> cases ds <;> rfl
      · have : f = 0 ∨ f = 1 := by omega
        rcases this with rfl | rfl <;> cases nm <;> cases ds <;> rfl
    rw [this]; simp
theorem c_is_width (w : Nat) (hw : w = 1 ∨ w = 2) : call FT (k + 1) F_is_width [.d (.int w)] M = .ok (.d (.bl true)) M := by
  rw [call_fn (fn := fn_is_width) rfl rfl]
  have : evSs (call FT k) fn_is_width.body (entry fn_is_width [.d (.int w)]) M = .ret (.d (.bl true)) M := by rcases hw with rfl | rfl <;> rfl
  rw [this]; simp
theorem six_line {n : Nat} (h : n ≤ 6) : n ≤ line := by unfold line; omega
theorem all_bl {α : Type} (xs : List α) : boolsOf (xs.map fun _ => D.bl true) = some (xs.map fun _ => true) := boolsOf_map' _ _
theorem all_tt {α : Type} (xs : List α) : ((xs.map fun _ => true).all id) = true := by simp
theorem c_is_spec (w : Nat) (ss : List Stp) (h : SpecOk w ss) : call FT (k + 3) F_is_spec [.d (specD w ss)] M = .ok (.d (.bl true)) M := by
  rw [call_fn (fn := fn_is_spec) rfl rfl]
  obtain ⟨hw, hl, hs⟩ := h
  have e1 : (ss.length : Int) ≤ 6 := by omega
  simp [fn_is_spec, b_is_spec, entry, specD, stepsD, c_is_width w hw, e1]
  rw [cond_none, comp_all Stp.d (fun s => [some (.d (specD w ss)), some (.d s.d)]) (fun s => .bl true) (by simp) ss (six_line hl)]
  · simp [all_bl, all_tt]
  · intro s hs'
    simp [specD, stepsD, c_is_step w hw s (hs s hs')]
theorem c_need_spec (w : Nat) (ss : List Stp) (h : SpecOk w ss) : call FT (k + 4) F_need_spec [.d (specD w ss)] M = .ok (.d .non) M := by
  rw [call_fn (fn := fn_need_spec) rfl rfl]
  simp [fn_need_spec, b_need_spec, entry, c_is_spec w ss h]
theorem kd_ne (v : Kd) : neD (.str v.s) (.str []) = some (.bl true) := by cases v <;> rfl
theorem c_is_record (w : Nat) (hw : w ≤ 2) (r : List Vl) (h : RecOk w r) : call FT (k + 2) F_is_record [.d (recD r), .d (.int w)] M = .ok (.d (.bl true)) M := by
  rw [call_fn (fn := fn_is_record) rfl rfl]
  have hl := h.1
  simp [fn_is_record, b_is_record, entry, recD, hl]
  rw [cond_none, comp_all Vl.d (fun v => [some (.d (recD r)), some (.d (.int w)), some (.d v.d)]) (fun v => .bl true) (by simp) r (by unfold line; omega)]
  · simp [all_bl, all_tt]
  · intro v hv
    simp [recD, c_kind_of v (h.2 v hv), kd_ne]
theorem c_need_record (w : Nat) (hw : w ≤ 2) (ss : List Stp) (r : List Vl) (h : RecOk w r) : call FT (k + 3) F_need_record [.d (specD w ss), .d (recD r)] M = .ok (.d .non) M := by
  rw [call_fn (fn := fn_need_record) rfl rfl]
  simp [fn_need_record, b_need_record, entry, specD, c_is_record w hw r h]
theorem c_compare (w : Nat) (ss : List Stp) (h : SpecOk w ss) (a b : List Vl) (ha : RecOk w a) (hb : RecOk w b) : call FT (k + 5) F_compare [.d (specD w ss), .d (recD a), .d (recD b)] M = .ok (.d (.int (cmpR ss a b))) M := by
  rw [call_fn (fn := fn_compare) rfl rfl]
  have hw : w ≤ 2 := by rcases h.1 with h | h <;> omega
  have e1 := c_need_spec (k := k) (M := M) w ss h
  have e2 := c_need_record (k := k + 1) (M := M) w hw ss a ha
  have e3 := c_need_record (k := k + 1) (M := M) w hw ss b hb
  have e4 := c_compared (k := k + 1) (M := M) (w := w) h.2.2 ha hb
  have e5 : at_ [D.int w, stepsD ss] 1 = some (stepsD ss) := rfl
  simp only [fn_compare, b_compare, entry, List.map_cons, List.map_nil, List.length_cons, List.length_nil, List.replicate, List.append_nil, List.cons_append, List.nil_append, Nat.reduceAdd, Nat.reduceSub, x_ss, x_ex, x_call, x_es, x_es0, x_v, List.getElem?_cons_zero, List.getElem?_cons_succ, bind_ok, e1, e2, e3, out_ok, then_nx, x_ret, x_op, x_c, asD_d, ofO_some, o_ix]
  simp only [specD, ix_t, e5, ofO_some, bind_ok, e4, out_ok, then_ret, fin_d, take_self]
theorem c_reversed_step (s : Stp) : call FT (k + 1) F_reversed_step [.d s.d] M = .ok (.d (revS s).d) M := by
  rw [call_fn (fn := fn_reversed_step) rfl rfl]
  cases s with
  | rank f gs =>
    have : evSs (call FT k) fn_reversed_step.body (entry fn_reversed_step [.d (Stp.rank f gs).d]) M = .ret (.d (.tup [.str [114, 97, 110, 107], .int f, .tup (gs.map grD).reverse])) M := by rfl
    rw [this]; simp [revS, Stp.d, gsD]
  | dir nm f ds =>
    have : evSs (call FT k) fn_reversed_step.body (entry fn_reversed_step [.d (Stp.dir nm f ds).d]) M = .ret (.d (revS (.dir nm f ds)).d) M := by cases nm <;> cases ds <;> rfl
    rw [this]; simp
theorem c_reversed_spec (w : Nat) (ss : List Stp) (h : SpecOk w ss) : call FT (k + 5) F_reversed_spec [.d (specD w ss)] M = .ok (.d (specD w (ss.map revS))) M := by
  rw [call_fn (fn := fn_reversed_spec) rfl rfl]
  have e1 := c_need_spec (k := k) (M := M) w ss h
  rw [specD] at e1
  simp [fn_reversed_spec, b_reversed_spec, entry, specD, e1]
  simp [stepsD]
  rw [cond_none, comp_all Stp.d (fun s => [some (.d (specD w ss)), some (.d s.d)]) (fun s => (revS s).d) (by simp) ss (six_line h.2.1)]
  · simp [Function.comp_def]
  · intro s hs'
    simp [specD, stepsD, c_reversed_step]
theorem rev_specOk {w : Nat} {ss : List Stp} (h : SpecOk w ss) : SpecOk w (ss.map revS) := by
  refine ⟨h.1, by simpa using h.2.1, fun s hs => ?_⟩
  obtain ⟨t, ht, rfl⟩ := List.mem_map.mp hs
  exact revS_ok (h.2.2 t ht)
theorem c_need_pair (w : Nat) (ss tt : List Stp) (h : SpecOk w ss) (h' : SpecOk w tt) : call FT (k + 5) F_need_pair [.d (specD w ss), .d (specD w tt)] M = .ok (.d .non) M := by
  rw [call_fn (fn := fn_need_pair) rfl rfl]
  have e1 := c_need_spec (k := k) (M := M) w ss h
  have e2 := c_need_spec (k := k) (M := M) w tt h'
  rw [specD] at e1 e2
  simp [fn_need_pair, b_need_pair, entry, specD, e1, e2]
theorem c_combined (w : Nat) (ss tt : List Stp) (h : SpecOk w ss) (h' : SpecOk w tt) (hl : ss.length + tt.length ≤ 6) : call FT (k + 6) F_combined [.d (specD w ss), .d (specD w tt)] M = .ok (.d (specD w (ss ++ tt))) M := by
  rw [call_fn (fn := fn_combined) rfl rfl]
  have e1 := c_need_pair (k := k) (M := M) w ss tt h h'
  rw [specD, specD] at e1
  have e2 : ¬ (6 : Int) < (ss.length + tt.length : Nat) := by omega
  have e3 : addD (stepsD ss) (stepsD tt) = some (stepsD (ss ++ tt)) := by
    rw [stepsD, stepsD, add_tt (by simp; exact six_line hl)]; simp [stepsD]
  have e4 : biD .len [stepsD (ss ++ tt)] = some (.int ((ss.length + tt.length : Nat) : Int)) := by rw [stepsD, len_t]; simp
  simp only [fn_combined, b_combined, entry, specD, List.map_cons, List.map_nil, List.length_cons, List.length_nil, List.replicate, List.append_nil, List.cons_append, List.nil_append, Nat.reduceAdd, Nat.reduceSub, x_ss, x_ex, x_call, x_es, x_es0, x_v, List.getElem?_cons_zero, List.getElem?_cons_succ, bind_ok, e1, out_ok, then_nx, x_asg, x_op, x_c, asD_d, ofO_some, o_ix, ix_t, at_1, at_0, o_add, e3, put_eq, List.set_cons_succ, List.set_cons_zero, x_iff, x_bi, mapM_1, mapM_0, Option.bind_some, e4, x_g, o_gt, gt_ii, ifO_bl]
  have e5 : ¬ (6 : Int) < (ss.length : Int) + tt.length := by omega
  simp [e5]
end
end G

set_option Elab.async false
set_option linter.all false
set_option autoImplicit false
set_option maxRecDepth 100000
set_option maxHeartbeats 4000000
/-! The laws' draws. -/
namespace G
def Town (t : Nat) (M : Mem) : Prop := ∃ a r : Int, M[t]? = some (.lst [.int a, .int r]) ∧ 0 ≤ a ∧ 0 ≤ r
def Adv (t : Nat) (M M' : Mem) : Prop := ∃ a r : Int, M' = M.set t (.lst [.int a, .int r]) ∧ 0 ≤ a ∧ 0 ≤ r
theorem Town.lt {t : Nat} {M : Mem} (h : Town t M) : t < M.length := by obtain ⟨a, r, h, _⟩ := h; exact (List.getElem?_eq_some_iff.mp h).1
theorem Adv.town {t : Nat} {M M' : Mem} (h : Adv t M M') (ht : t < M.length) : Town t M' := by
  obtain ⟨a, r, rfl, h1, h2⟩ := h
  exact ⟨a, r, List.getElem?_set_self ht, h1, h2⟩
theorem Adv.refl {t : Nat} {M : Mem} (h : Town t M) : Adv t M M := by
  obtain ⟨a, r, h, h1, h2⟩ := h
  refine ⟨a, r, ?_, h1, h2⟩
  apply List.ext_getElem?
  intro j
  by_cases hj : t = j
  · subst hj; rw [List.getElem?_set_self ((List.getElem?_eq_some_iff.mp h).1), h]
  · rw [List.getElem?_set_ne hj]
theorem Adv.trans {t : Nat} {M M' M2 : Mem} (h : Adv t M M') (h' : Adv t M' M2) : Adv t M M2 := by
  obtain ⟨a, r, rfl, _, _⟩ := h
  obtain ⟨b, q, rfl, h1, h2⟩ := h'
  exact ⟨b, q, by rw [List.set_set], h1, h2⟩
theorem Adv.len {t : Nat} {M M' : Mem} (h : Adv t M M') : M'.length = M.length := by obtain ⟨a, r, rfl, _⟩ := h; simp
theorem Adv.take {t : Nat} {M M' : Mem} (h : Adv t M M') : M'.take M.length = M' := List.take_of_length_le (by rw [h.len]; exact Nat.le_refl _)
/-- below the town's row: what is laid above stays -/
theorem Adv.app {t : Nat} {M X M' : Mem} (h : Adv t (M ++ X) M') (ht : t < M.length) : ∃ M1, Adv t M M1 ∧ M' = M1 ++ X := by
  obtain ⟨a, r, rfl, h1, h2⟩ := h
  exact ⟨_, ⟨a, r, rfl, h1, h2⟩, by rw [List.set_append_left _ _ ht]⟩
theorem asD_r {M : Mem} {t : Nat} {ds : List D} (h : M[t]? = some (.lst ds)) : asD M (.r t) = some (.lst ds) := by simp only [asD, h]
theorem frz_dat (ns : List Int) : D.dat (.frz (ns.map .int)) = true := by
  simp only [D.dat, D.okd, List.all_map, List.all_eq_true]
  intro x _; rfl
theorem eqvs_nil (xs : List D) : D.eqvs xs [] = xs.isEmpty := by cases xs <;> simp
@[simp] theorem take_set (M : Mem) (t : Nat) (o : O) : (List.set M t o).take M.length = List.set M t o := List.take_of_length_le (by simp)
abbrev scr (ns : List Int) : W := .d (.frz (ns.map .int))
section
variable {k : Nat} {M : Mem} {ns : List Int} {t : Nat}
theorem c_draw (hT : Town t M) {m : Int} (hm : 0 < m) (hm2 : m < 1073741824) : ∃ (v : Int) (M' : Mem), call FT (k + 1) F_law_draw [scr ns, .r t, .d (.int m)] M = .ok (.d (.int v)) M' ∧ Adv t M M' ∧ 0 ≤ v ∧ v < m := by
  obtain ⟨a, r, h, ha, hr⟩ := hT
  have ht : t < M.length := (List.getElem?_eq_some_iff.mp h).1
  have e1 := asD_r h
  rw [call_fn (fn := fn_law_draw) rfl rfl]
  have hfm : ∀ x : Int, fdivD (.int x) (.int m) = some (.int (x / m)) := fun x => fdiv_ii hm hm2
  have hmm : ∀ x : Int, modD (.int x) (.int m) = some (.int (x % m)) := fun x => mod_ii hm
  have hset : ∀ (x : Int) (M1 : Mem) (p q : Int), M1[t]? = some (.lst [.int p, .int q]) → setW (.r t) (.d (.int 1)) (.int x) M1 = some (M1.set t (.lst [.int p, .int x])) := fun x M1 p q e => by simp [setW, e, ix]
  have hset0 : setW (.r t) (.d (.int 0)) (.int (a + 1)) M = some (M.set t (.lst [.int (a + 1), .int r])) := by simp [setW, h, ix]
  have hget : getIx (.r t) (.d (.int 0)) M = some a := by simp [getIx, h, line]
  have h1 : (M.set t (.lst [.int (a + 1), .int r]))[t]? = some (.lst [.int (a + 1), .int r]) := List.getElem?_set_self ht
  by_cases hr0 : 0 < r
  · refine ⟨r % m, M.set t (.lst [.int a, .int (r / m)]), ?_, ⟨a, r / m, rfl, ha, Int.ediv_nonneg hr (by omega)⟩, Int.emod_nonneg _ (by omega), Int.emod_lt_of_pos _ hm⟩
    simp [fn_law_draw, b_law_draw, entry, e1, hr0, hfm, hmm, hset _ M a r h]
  · have hr1 : r = 0 := by omega
    subst hr1
    have hemp : eqD (.frz (ns.map .int)) (.lst []) = some (.bl ns.isEmpty) := by
      rw [eqD_of (frz_dat ns) rfl, eqv_fl, eqvs_nil]; simp
    by_cases hn : ns = []
    · subst hn
      refine ⟨a % m, M.set t (.lst [.int (a + 1), .int 0]), ?_, ⟨a + 1, 0, rfl, by omega, by omega⟩, Int.emod_nonneg _ (by omega), Int.emod_lt_of_pos _ hm⟩
      simp at hemp
      simp [fn_law_draw, b_law_draw, entry, e1, hget, hset0, augI, hemp, hmm]
    · have hne : ns.isEmpty = false := by simpa using hn
      rw [hne] at hemp
      have hpos : 0 < ns.length := List.length_pos_iff.mpr hn
      have p18 : powD (.int 10) (.int 18) = some (.int (10 ^ 18)) := by rfl
      have p60 : powD (.int 10) (.int 60) = some (.int (10 ^ 60)) := by rfl
      have m60 : mulD (.int (10 ^ 60)) (.int (10 ^ 60)) = some (.int (10 ^ 60 * 10 ^ 60)) := mul_2 (by decide) (by decide)
      have d120 : ∀ x : Int, modD (.int x) (.int (10 ^ 60 * 10 ^ 60)) = some (.int (x % (10 ^ 60 * 10 ^ 60))) := fun x => mod_ii (by decide)
      have hat : ∀ i : Int, 0 ≤ i → i < ns.length → ∃ z : Int, at_ (ns.map D.int) i = some (.int z) := fun i h1 h2 => by
        rw [at_int _ h1, List.getElem?_map, List.getElem?_eq_getElem (by omega)]
        exact ⟨_, rfl⟩
      have ha2 : 0 ≤ a % (ns.length : Int) := Int.emod_nonneg _ (by omega)
      have ha3 : a % (ns.length : Int) < ns.length := Int.emod_lt_of_pos _ (by omega)
      obtain ⟨y, hy⟩ := hat _ ha2 ha3
      have hml : modD (.int a) (.int ns.length) = some (.int (a % ns.length)) := mod_ii (by omega)
      have r1 : mulD (.int y) (.int 1103515245) = some (.int (y * 1103515245)) := mul_r (by decide)
      have r2 : mulD (.int 7919) (.int a) = some (.int (7919 * a)) := mul_l (by decide)
      have r3 : ∀ x : Int, modD (.int x) (.int 2147483647) = some (.int (x % 2147483647)) := fun x => mod_ii (by decide)
      have r4 : ∀ x : Int, modD (.int x) (.int 999983) = some (.int (x % 999983)) := fun x => mod_ii (by decide)
      have r5 : ∀ x : Int, powD (.int (x % 2147483647)) (.int 5) = some (.int ((x % 2147483647) ^ 5)) := fun x => pow_ii (by decide) (by decide) (by
        have := Int.emod_nonneg x (b := 2147483647) (by decide)
        have := Int.emod_lt_of_pos x (b := 2147483647) (by decide)
        omega)
      have fin1 : ∀ z : Int, ∃ (v : Int) (M' : Mem), R.ok (W.d (.int (z % m))) (M.set t (.lst [.int (a + 1), .int 0])) = R.ok (W.d (.int v)) M' ∧ Adv t M M' ∧ 0 ≤ v ∧ v < m := fun z =>
        ⟨z % m, _, rfl, ⟨a + 1, 0, rfl, by omega, by omega⟩, Int.emod_nonneg _ (by omega), Int.emod_lt_of_pos _ hm⟩
      by_cases hal : a < ns.length
      · obtain ⟨z, hz⟩ := hat _ ha hal
        by_cases hbig : (10 : Int) ^ 18 ≤ z
        · refine ⟨z % m, M.set t (.lst [.int (a + 1), .int (z / m % (10 ^ 60 * 10 ^ 60))]), ?_, ⟨a + 1, _, rfl, by omega, Int.emod_nonneg _ (by decide)⟩, Int.emod_nonneg _ (by omega), Int.emod_lt_of_pos _ hm⟩
          have hs2 := hset (z / m % (10 ^ 60 * 10 ^ 60)) _ _ _ h1
          have hdec : decide ((10 : Int) ^ 18 ≤ z) = true := decide_eq_true hbig
          simp only [fn_law_draw, b_law_draw, entry, List.map_cons, List.map_nil, List.length_cons, List.length_nil, List.replicate, List.append_nil, List.cons_append, List.nil_append, Nat.reduceAdd, Nat.reduceSub, x_ss, x_iff, x_op, x_v, x_c, List.getElem?_cons_zero, List.getElem?_cons_succ, bind_ok, e1, asD_d, ofO_some, o_ix, ix_l, at_1, at_0, o_gt, gt_ii, out_ok, ifO_bl, decide_false, Bool.false_eq_true, if_false, Int.lt_irrefl, then_nx,
            x_asg, put_eq, List.set_cons_succ, List.set_cons_zero, x_augix, hget, ofOut_some, augixW_i, augI, hset0, o_eq, x_lst, x_ds0, mk_0, hemp, x_ss0, x_and, x_and1, x_and2, x_bi, x_es, x_es0, mapM_1, mapM_0, Option.bind_some, len_f, List.length_map, o_lt, lt_ii, decide_eq_true hal, ifR_bl, if_true, ix_f, hz, o_ge, o_pow, p18, ge_ii, hdec, x_set, o_mod, o_fdiv, hfm, o_mul, p60, m60, d120, setD_d, hs2, x_ret, hmm, then_ret, fin_d, List.set_set]
          simp
        · have hdec : decide ((10 : Int) ^ 18 ≤ z) = false := decide_eq_false hbig
          refine cast ?_ (fin1 ((((y * 1103515245 + 7919 * a + 12345) % 2147483647) ^ 5) % 2147483647 % 999983))
          congr 1; funext v; congr 1; funext M'; congr 1; congr 1
          simp only [fn_law_draw, b_law_draw, entry, List.map_cons, List.map_nil, List.length_cons, List.length_nil, List.replicate, List.append_nil, List.cons_append, List.nil_append, Nat.reduceAdd, Nat.reduceSub, x_ss, x_iff, x_op, x_v, x_c, List.getElem?_cons_zero, List.getElem?_cons_succ, bind_ok, e1, asD_d, ofO_some, o_ix, ix_l, at_1, at_0, o_gt, gt_ii, out_ok, ifO_bl, decide_false, Bool.false_eq_true, if_false, Int.lt_irrefl, then_nx,
            x_asg, put_eq, List.set_cons_succ, List.set_cons_zero, x_augix, hget, ofOut_some, augixW_i, augI, hset0, o_eq, x_lst, x_ds0, mk_0, hemp, x_ss0, x_and, x_and1, x_and2, x_bi, x_es, x_es0, mapM_1, mapM_0, Option.bind_some, len_f, List.length_map, o_lt, lt_ii, decide_eq_true hal, ifR_bl, if_true, ix_f, hz, o_ge, o_pow, p18, ge_ii, hdec, o_mod, hml, hy, o_mul, r1, r2, o_add, add_ii, r3, r5, r4, hmm, x_ret, then_ret, fin_d]
          simp
      · have hdal : decide (a < (ns.length : Int)) = false := decide_eq_false hal
        refine cast ?_ (fin1 ((((y * 1103515245 + 7919 * a + 12345) % 2147483647) ^ 5) % 2147483647 % 999983))
        congr 1; funext v; congr 1; funext M'; congr 1; congr 1
        simp only [fn_law_draw, b_law_draw, entry, List.map_cons, List.map_nil, List.length_cons, List.length_nil, List.replicate, List.append_nil, List.cons_append, List.nil_append, Nat.reduceAdd, Nat.reduceSub, x_ss, x_iff, x_op, x_v, x_c, List.getElem?_cons_zero, List.getElem?_cons_succ, bind_ok, e1, asD_d, ofO_some, o_ix, ix_l, at_1, at_0, o_gt, gt_ii, out_ok, ifO_bl, decide_false, Bool.false_eq_true, if_false, Int.lt_irrefl, then_nx,
            x_asg, put_eq, List.set_cons_succ, List.set_cons_zero, x_augix, hget, ofOut_some, augixW_i, augI, hset0, o_eq, x_lst, x_ds0, mk_0, hemp, x_ss0, x_and, x_and1, x_and2, x_bi, x_es, x_es0, mapM_1, mapM_0, Option.bind_some, len_f, List.length_map, o_lt, lt_ii, hdal, ifR_bl, if_true, ix_f, o_ge, o_pow, p18, ge_ii, o_mod, hml, hy, o_mul, r1, r2, o_add, add_ii, r3, r5, r4, hmm, x_ret, then_ret, fin_d]
        simp
end
end G

set_option Elab.async false
set_option linter.all false
set_option autoImplicit false
set_option maxRecDepth 100000
set_option maxHeartbeats 4000000
/-! The laws' draws: groups, steps, specs. -/
namespace G
section
variable {k : Nat} {M : Mem} {ns : List Int} {t : Nat}
theorem c_pick (hT : Town t M) {ds : List D} (h0 : 0 < ds.length) (h1 : ds.length < 1000) : ∃ (i : Nat) (x : D) (M' : Mem), ds[i]? = some x ∧ i < ds.length ∧ call FT (k + 2) F_law_pick [scr ns, .r t, .d (.lst ds)] M = .ok (.d x) M' ∧ Adv t M M' := by
  rw [call_fn (fn := fn_law_pick) rfl rfl]
  obtain ⟨v, M', e, ad, v0, v1⟩ := c_draw (k := k) (ns := ns) hT (m := ds.length) (by omega) (by omega)
  have hv : v.toNat < ds.length := by omega
  refine ⟨v.toNat, ds[v.toNat], M', List.getElem?_eq_getElem hv, hv, ?_, ad⟩
  have e2 : at_ ds v = some ds[v.toNat] := by rw [at_int _ v0, List.getElem?_eq_getElem hv]
  simp [fn_law_pick, b_law_pick, entry, e, e2, ad.take]

/-! ### groups -/
abbrev ksD (ks : List Kd) : List D := ks.map fun x => .str x.s
def srt2 (a b : Kd) : List Kd := match a, b with
  | .num, .non => [.non, .num]
  | .txt, .non => [.non, .txt]
  | .txt, .num => [.num, .txt]
  | a, b => [a, b]
def nexts (s : List Kd × List (List Kd)) : List (List Kd × List (List Kd)) :=
  (List.range s.1.length).flatMap fun i => (s.1.eraseIdx i, s.2 ++ [[(s.1[i]?).getD .non]]) :: (List.range (s.1.length - 1)).map fun j => ((s.1.eraseIdx i).eraseIdx j, s.2 ++ [srt2 ((s.1[i]?).getD .non) (((s.1.eraseIdx i)[j]?).getD .non)])
def s0 : List Kd × List (List Kd) := ([.non, .num, .txt], [])
theorem reach : ∀ s1 ∈ nexts s0, (s1.1 = [] → s1.2 ∈ ranks) ∧ ∀ s2 ∈ nexts s1, (s2.1 = [] → s2.2 ∈ ranks) ∧ ∀ s3 ∈ nexts s2, s3.1 = [] ∧ s3.2 ∈ ranks := by
  have h : ((nexts s0).all fun s1 => (!s1.1.isEmpty || decide (s1.2 ∈ ranks)) && (nexts s1).all fun s2 => (!s2.1.isEmpty || decide (s2.2 ∈ ranks)) && (nexts s2).all fun s3 => s3.1.isEmpty && decide (s3.2 ∈ ranks)) = true := by decide +kernel
  simp only [List.all_eq_true, Bool.and_eq_true, Bool.or_eq_true, Bool.not_eq_true', decide_eq_true_eq, List.isEmpty_iff, List.isEmpty_eq_false_iff] at h
  intro s1 h1
  obtain ⟨a1, a2⟩ := h s1 h1
  refine ⟨fun e => a1.resolve_left (fun z => z e), fun s2 h2 => ?_⟩
  obtain ⟨b1, b2⟩ := a2 s2 h2
  exact ⟨fun e => b1.resolve_left (fun z => z e), fun s3 h3 => b2 s3 h3⟩
structure GInv (M : Mem) (t n : Nat) (Q : Mem) (ks : List Kd) (ps : List (List Kd)) : Prop where
  tn : t < n
  len : n + 2 ≤ Q.length
  k : Q[n]? = some (.lst (ksD ks))
  p : Q[n + 1]? = some (.lst (ps.map grD))
  ad : Adv t M (Q.take n)
theorem GInv.town {n : Nat} {Q : Mem} {ks : List Kd} {ps : List (List Kd)} (h : GInv M t n Q ks ps) (ht : t < M.length) : Town t Q := by
  obtain ⟨a, r, h1, h2, h3⟩ := h.ad.town ht
  rw [List.getElem?_take, if_pos h.tn] at h1
  exact ⟨a, r, h1, h2, h3⟩
theorem GInv.adv {n : Nat} {Q Q' : Mem} {ks : List Kd} {ps : List (List Kd)} (h : GInv M t n Q ks ps) (a : Adv t Q Q') : GInv M t n Q' ks ps := by
  have tn := h.tn
  obtain ⟨x, y, rfl, h1, h2⟩ := a
  refine ⟨h.tn, by simpa using h.len, by rw [List.getElem?_set_ne (by omega)]; exact h.k, by rw [List.getElem?_set_ne (by omega)]; exact h.p, ?_⟩
  rw [List.take_set]
  exact h.ad.trans ⟨x, y, rfl, h1, h2⟩
theorem GInv.kset {n : Nat} {Q : Mem} {ks ks' : List Kd} {ps : List (List Kd)} (h : GInv M t n Q ks ps) : GInv M t n (Q.set n (.lst (ksD ks'))) ks' ps := by
  have tn := h.tn
  have := h.len
  refine ⟨h.tn, by simpa using h.len, List.getElem?_set_self (by omega), by rw [List.getElem?_set_ne (by omega)]; exact h.p, ?_⟩
  rw [List.take_set_of_le (Nat.le_refl n)]
  exact h.ad
theorem GInv.pset {n : Nat} {Q : Mem} {ks : List Kd} {ps ps' : List (List Kd)} (h : GInv M t n Q ks ps) : GInv M t n (Q.set (n + 1) (.lst (ps'.map grD))) ks ps' := by
  have tn := h.tn
  have := h.len
  refine ⟨h.tn, by simpa using h.len, by rw [List.getElem?_set_ne (by omega)]; exact h.k, List.getElem?_set_self (by omega), ?_⟩
  rw [List.take_set_of_le (by omega)]
  exact h.ad
theorem GInv.gset {n l : Nat} {Q : Mem} {ks : List Kd} {ps : List (List Kd)} (h : GInv M t n Q ks ps) (hl : n + 2 ≤ l) (o : O) : GInv M t n (Q.set l o) ks ps := by
  have tn := h.tn
  have := h.len
  refine ⟨h.tn, by simpa using h.len, by rw [List.getElem?_set_ne (by omega)]; exact h.k, by rw [List.getElem?_set_ne (by omega)]; exact h.p, ?_⟩
  rw [List.take_set_of_le (by omega)]
  exact h.ad
theorem GInv.alloc {n : Nat} {Q : Mem} {ks : List Kd} {ps : List (List Kd)} (h : GInv M t n Q ks ps) (o : O) : GInv M t n (Q ++ [o]) ks ps := by
  have := h.len
  refine ⟨h.tn, by simp; omega, by rw [List.getElem?_append_left (by omega)]; exact h.k, by rw [List.getElem?_append_left (by omega)]; exact h.p, ?_⟩
  rw [List.take_append_of_le_length (by omega)]
  exact h.ad
theorem ks_erase (ks : List Kd) (i : Nat) : (ksD ks).eraseIdx i = ksD (ks.eraseIdx i) := by
  induction ks generalizing i with
  | nil => rfl
  | cons a ks ih => cases i with
    | zero => rfl
    | succ i => simp only [ksD, List.map_cons, List.eraseIdx_cons_succ] at ih ⊢; rw [ih]
theorem pop_ok {Q : Mem} {n i : Nat} {ks : List Kd} {v : Int} (h : Q[n]? = some (.lst (ksD ks))) (hl : ks.length ≤ 3) (hv : 0 ≤ v) (hi : v.toNat < ks.length) :
    popW (.r n) [.d (.int v)] Q = .ok (.d (.str ((ks[v.toNat]?).getD .non).s)) (Q.set n (.lst (ksD (ks.eraseIdx v.toNat)))) := by
  have h1 : (ksD ks).length ≤ line := by simp [line]; omega
  have h2 : ix (ksD ks).length v = some v.toNat := by simp only [ix, hv, if_true, List.length_map]; rw [if_pos (by omega)]
  have h3 : (ksD ks)[v.toNat]? = some (.str ((ks[v.toNat]?).getD .non).s) := by simp [ksD, List.getElem?_eq_getElem hi]
  simp only [popW, h, h1, if_true, h2, h3, ks_erase]
theorem app_ok {Q : Mem} {l : Nat} {ds : List D} {x : D} (h : Q[l]? = some (.lst ds)) (hl : ds.length < line) : appendW (.r l) [.d x] Q = .ok (.d .non) (Q.set l (.lst (ds ++ [x]))) := by
  simp only [appendW, h, hl, if_true]
theorem lstW_r {Q : Mem} {l : Nat} {ds : List D} (h : Q[l]? = some (.lst ds)) : lstW (.r l) Q = true := by simp only [lstW, asD_r h]
theorem ks_dat (ks : List Kd) : D.dat (.lst (ksD ks)) = true := by
  simp only [D.dat, D.okd, ksD, List.all_map, List.all_eq_true]
  intro x _; cases x <;> rfl
theorem ks_ne (ks : List Kd) : neD (.lst (ksD ks)) (.lst []) = some (.bl (!ks.isEmpty)) := by
  rw [neD_of (ks_dat ks) rfl, eqv_ll, eqvs_nil]; simp
theorem sorted1 (a : Kd) : sortedD (.lst [.str a.s]) = some (.lst (ksD [a])) := by cases a <;> rfl
theorem sorted2 (a b : Kd) : sortedD (.lst [.str a.s, .str b.s]) = some (.lst (ksD (srt2 a b))) := by cases a <;> cases b <;> rfl
theorem while_t {cond : Sl → Mem → R W} {body : Sl → Mem → Out} {n : Nat} {σ : Sl} {M M1 : Mem} (h : cond σ M = .ok (.d (.bl true)) M1) : whileLoop cond body (n + 1) σ M = (body σ M1).andThen fun σ2 M2 => whileLoop cond body n σ2 M2 := by simp only [whileLoop, h, out_ok]
theorem while_f {cond : Sl → Mem → R W} {body : Sl → Mem → Out} {n : Nat} {σ : Sl} {M M1 : Mem} (h : cond σ M = .ok (.d (.bl false)) M1) : whileLoop cond body (n + 1) σ M = .nx σ M1 := by simp only [whileLoop, h, out_ok]
def gC : Ex := .op .ne (.v 2) (.lst 0 [])
def gB : List Sm := [.asg (.nm 4) (.lst 1 [(.meth .popAt (.v 2) [(.call F_law_draw [(.v 0), (.v 1), (.bi .len [(.v 2)])])])]),
      .iff (.and [(.op .ne (.v 2) (.lst 0 [])), (.op .eq (.call F_law_draw [(.v 0), (.v 1), (.c (.int 3))]) (.c (.int 0)))]) [.ex (.meth .append (.v 4) [(.meth .popAt (.v 2) [(.call F_law_draw [(.v 0), (.v 1), (.bi .len [(.v 2)])])])])] [],
      .ex (.meth .append (.v 3) [(.bi .tuple [(.sorted (.v 4))])])]
theorem gC_ev {n : Nat} {Q : Mem} {ks : List Kd} {ps : List (List Kd)} {g : Option W} (h : GInv M t n Q ks ps) : evE (call FT (k + 1)) gC [some (scr ns), some (.r t), some (.r n), some (.r (n + 1)), g] Q = .ok (.d (.bl (!ks.isEmpty))) Q := by
  simp [gC, asD_r h.k, ks_ne]
theorem meth_ok {Γ : Nat → List W → Mem → R W} {m : Mt} {a : Ex} {es : List Ex} {σ : Sl} {Q Q1 : Mem} {w : W} (h1 : evE Γ a σ Q = .ok w Q1) (h2 : lstW w Q1 = true) : evE Γ (.meth m a es) σ Q = (evEs Γ es σ Q1).bind fun ws M => methW m w ws M := by
  rw [x_meth, h1]; simp only [bind_ok, h2, if_true]
theorem g_iter {n f : Nat} {Q : Mem} {ks : List Kd} {ps : List (List Kd)} {g : Option W} (hI : GInv M t n Q ks ps) (ht : t < M.length) (hk : ks ≠ []) (hl : ks.length ≤ 3) (hp : ps.length ≤ 3) :
    ∃ Q' ks' ps' g', (ks', ps') ∈ nexts (ks, ps) ∧ GInv M t n Q' ks' ps' ∧ whileLoop (evE (call FT (k + 1)) gC) (evSs (call FT (k + 1)) gB) (f + 1) [some (scr ns), some (.r t), some (.r n), some (.r (n + 1)), g] Q =
      whileLoop (evE (call FT (k + 1)) gC) (evSs (call FT (k + 1)) gB) f [some (scr ns), some (.r t), some (.r n), some (.r (n + 1)), g'] Q' := by
  have hpos : 0 < ks.length := List.length_pos_iff.mpr hk
  rw [while_t (M1 := Q) (by rw [gC_ev hI]; simp [hk])]
  obtain ⟨v, Q1, e1, a1, v0, v1⟩ := c_draw (k := k) (ns := ns) (hI.town ht) (m := ks.length) (by omega) (by omega)
  have I1 := hI.adv a1
  have hv : v.toNat < ks.length := by omega
  have e2 := pop_ok (i := 0) I1.k hl v0 hv
  obtain ⟨ks1, hks1⟩ : ∃ ks1, ks1 = ks.eraseIdx v.toNat := ⟨_, rfl⟩
  obtain ⟨x, hx⟩ : ∃ x, x = (ks[v.toNat]?).getD .non := ⟨_, rfl⟩
  rw [← hks1, ← hx] at e2
  have I2 : GInv M t n (Q1.set n (.lst (ksD ks1))) ks1 ps := I1.kset
  obtain ⟨Q2, hQ2⟩ : ∃ Q2, Q2 = Q1.set n (.lst (ksD ks1)) := ⟨_, rfl⟩
  rw [← hQ2] at I2 e2
  have I3 := I2.alloc (.lst [.str x.s])
  have hlen2 := I2.len
  have g3 : (Q2 ++ [O.lst [.str x.s]])[Q2.length]? = some (.lst [.str x.s]) := by rw [List.getElem?_append_right (Nat.le_refl _)]; simp
  obtain ⟨Q3, hQ3⟩ : ∃ Q3, Q3 = Q2 ++ [O.lst [.str x.s]] := ⟨_, rfl⟩
  rw [← hQ3] at I3 g3
  have l1 : ks1.length = ks.length - 1 := by rw [hks1, List.length_eraseIdx, if_pos hv]
  have hpl : (ps.map grD).length < line := by simp [line]; omega
  have st1 : evS (call FT (k + 1)) (.asg (.nm 4) (.lst 1 [(.meth .popAt (.v 2) [(.call F_law_draw [(.v 0), (.v 1), (.bi .len [(.v 2)])])])])) [some (scr ns), some (.r t), some (.r n), some (.r (n + 1)), g] Q =
      .nx [some (scr ns), some (.r t), some (.r n), some (.r (n + 1)), some (.r Q2.length)] Q3 := by
    simp [asD_r hI.k, lstW_r hI.k, e1, methW, e2, hQ3]
  by_cases hz : ks1 = []
  · have e4 := app_ok (x := .tup (ksD [x])) I3.p hpl
    refine ⟨_, ks1, ps ++ [[x]], some (.r Q2.length), ?_, (I3.pset (ps' := ps ++ [[x]])), ?_⟩
    · simp only [nexts, List.mem_flatMap, List.mem_range, List.mem_cons]
      exact ⟨v.toNat, hv, .inl (by rw [hks1, hx])⟩
    · have c1 : neD (.lst (ksD ks1)) (.lst []) = some (.bl false) := by rw [ks_ne, hz]; rfl
      rw [show gB = [_, _, _] from rfl, x_ss, st1]
      simp [asD_r I3.k, c1, asD_r I3.p, lstW_r I3.p, asD_r g3, sorted1, methW]
      simp [grD] at e4 ⊢
      rw [e4]; simp
  · have c1 : neD (.lst (ksD ks1)) (.lst []) = some (.bl true) := by rw [ks_ne]; simp [hz]
    obtain ⟨u, Q4, e5, a5, u0, u1⟩ := c_draw (k := k) (ns := ns) (I3.town ht) (m := 3) (by omega) (by omega)
    have I4 := I3.adv a5
    have g4 : Q4[Q2.length]? = some (.lst [.str x.s]) := by
      obtain ⟨p, q, rfl, _⟩ := a5
      rw [List.getElem?_set_ne (by have := I2.tn; omega)]; exact g3
    by_cases hu : u = 0
    · subst hu
      have hpos1 : 0 < ks1.length := List.length_pos_iff.mpr hz
      obtain ⟨y, Q5, e6, a6, y0, y1⟩ := c_draw (k := k) (ns := ns) (I4.town ht) (m := ks1.length) (by omega) (by omega)
      have I5 := I4.adv a6
      have hy : y.toNat < ks1.length := by omega
      have e7 := pop_ok (i := 0) I5.k (by omega) y0 hy
      have g5 : Q5[Q2.length]? = some (.lst [.str x.s]) := by
        obtain ⟨p, q, rfl, _⟩ := a6
        rw [List.getElem?_set_ne (by have := I2.tn; omega)]; exact g4
      obtain ⟨ks2, hks2⟩ : ∃ ks2, ks2 = ks1.eraseIdx y.toNat := ⟨_, rfl⟩
      obtain ⟨z, hzz⟩ : ∃ z, z = (ks1[y.toNat]?).getD .non := ⟨_, rfl⟩
      rw [← hks2, ← hzz] at e7
      have I6 : GInv M t n (Q5.set n (.lst (ksD ks2))) ks2 ps := I5.kset
      obtain ⟨Q6, hQ6⟩ : ∃ Q6, Q6 = Q5.set n (.lst (ksD ks2)) := ⟨_, rfl⟩
      rw [← hQ6] at I6 e7
      have g6 : Q6[Q2.length]? = some (.lst [.str x.s]) := by rw [hQ6, List.getElem?_set_ne (by omega)]; exact g5
      have e8 := app_ok (x := .str z.s) g6 (by simp [line])
      have I7 := I6.gset (l := Q2.length) (by omega) (.lst [.str x.s, .str z.s])
      have g7 : (Q6.set Q2.length (.lst [.str x.s, .str z.s]))[Q2.length]? = some (.lst [.str x.s, .str z.s]) := List.getElem?_set_self ((List.getElem?_eq_some_iff.mp g6).1)
      obtain ⟨Q7, hQ7⟩ : ∃ Q7, Q7 = Q6.set Q2.length (.lst [.str x.s, .str z.s]) := ⟨_, rfl⟩
      rw [← hQ7] at I7 g7
      have e8' : appendW (.r Q2.length) [.d (.str z.s)] Q6 = .ok (.d .non) Q7 := by rw [e8, hQ7]; rfl
      have e9 := app_ok (x := .tup (ksD (srt2 x z))) I7.p hpl
      refine ⟨_, ks2, ps ++ [srt2 x z], some (.r Q2.length), ?_, (I7.pset (ps' := ps ++ [srt2 x z])), ?_⟩
      · simp only [nexts, List.mem_flatMap, List.mem_range, List.mem_cons, List.mem_map]
        refine ⟨v.toNat, hv, .inr ⟨y.toNat, by omega, ?_⟩⟩
        rw [hks2, hzz, hx, hks1]
      · rw [show gB = [_, _, _] from rfl, x_ss, st1]
        simp [asD_r I3.k, c1, e5, asD_r I4.k, lstW_r g4, lstW_r I4.k, e6, methW, e7, e8', asD_r I7.p, lstW_r I7.p, asD_r g7, sorted2]
        simp [grD] at e9 ⊢
        rw [e9]; simp
    · have e4 := app_ok (x := .tup (ksD [x])) I4.p hpl
      refine ⟨_, ks1, ps ++ [[x]], some (.r Q2.length), ?_, (I4.pset (ps' := ps ++ [[x]])), ?_⟩
      · simp only [nexts, List.mem_flatMap, List.mem_range, List.mem_cons]
        exact ⟨v.toNat, hv, .inl (by rw [hks1, hx])⟩
      · rw [show gB = [_, _, _] from rfl, x_ss, st1]
        simp [asD_r I3.k, c1, e5, hu, asD_r I4.p, lstW_r I4.p, asD_r g4, sorted1, methW]
        simp [grD] at e4 ⊢
        rw [e4]; simp
theorem nexts_len {s s' : List Kd × List (List Kd)} (h : s' ∈ nexts s) : s'.1.length ≤ s.1.length ∧ s'.2.length = s.2.length + 1 := by
  simp only [nexts, List.mem_flatMap, List.mem_range, List.mem_cons, List.mem_map] at h
  obtain ⟨i, hi, h | ⟨j, hj, h⟩⟩ := h
  · subst h; simp [List.length_eraseIdx]; split <;> omega
  · subst h; simp [List.length_eraseIdx]; repeat' split <;> omega
theorem c_groups (hT : Town t M) : ∃ (gs : List (List Kd)) (M' : Mem), gs ∈ ranks ∧ call FT (k + 2) F_law_groups [scr ns, .r t] M = .ok (.d (gsD gs)) M' ∧ Adv t M M' := by
  have ht := hT.lt
  rw [call_fn (fn := fn_law_groups) rfl rfl]
  have I0 : GInv M t M.length (M ++ [.lst (ksD s0.1)] ++ [.lst []]) s0.1 s0.2 := by
    refine ⟨ht, by simp, ?_, ?_, ?_⟩
    · rw [List.append_assoc, List.getElem?_append_right (Nat.le_refl _)]; simp
    · rw [List.append_assoc, List.getElem?_append_right (by omega)]; simp [s0]
    · rw [List.append_assoc, List.take_append_of_le_length (Nat.le_refl _), List.take_length]; exact .refl hT
  -- the loop, at most three times
  have fin1 : ∀ (Q : Mem) (ps : List (List Kd)) (g : Option W) (f : Nat), GInv M t M.length Q [] ps → ps ∈ ranks →
      fin M.length ((whileLoop (evE (call FT (k + 1)) gC) (evSs (call FT (k + 1)) gB) (f + 1) [some (scr ns), some (.r t), some (.r M.length), some (.r (M.length + 1)), g] Q).andThen fun σ M => evSs (call FT (k + 1)) [.ret (.bi .tuple [(.v 3)])] σ M) = .ok (.d (gsD ps)) (Q.take M.length) := by
    intro Q ps g f I hps
    rw [while_f (M1 := Q) (by rw [gC_ev I]; rfl)]
    simp [asD_r I.p, gsD]
  have main : ∃ (gs : List (List Kd)) (Q : Mem), gs ∈ ranks ∧ fin M.length ((whileLoop (evE (call FT (k + 1)) gC) (evSs (call FT (k + 1)) gB) 1000 [some (scr ns), some (.r t), some (.r M.length), some (.r (M.length + 1)), none] (M ++ [.lst (ksD s0.1)] ++ [.lst []])).andThen fun σ M => evSs (call FT (k + 1)) [.ret (.bi .tuple [(.v 3)])] σ M) = .ok (.d (gsD gs)) (Q.take M.length) ∧ Adv t M (Q.take M.length) := by
    obtain ⟨Q1, k1, p1, g1, m1, I1, e1⟩ := g_iter (k := k) (ns := ns) (f := 999) (g := none) I0 ht (by simp [s0]) (by simp [s0]) (by simp [s0])
    rw [e1]
    obtain ⟨r1, r2⟩ := reach _ m1
    have l1 := nexts_len m1
    simp only [s0, List.length_cons, List.length_nil] at l1
    by_cases h1 : k1 = []
    · subst h1; exact ⟨p1, Q1, r1 rfl, fin1 Q1 p1 g1 998 I1 (r1 rfl), I1.ad⟩
    obtain ⟨Q2, k2, p2, g2, m2, I2, e2⟩ := g_iter (k := k) (ns := ns) (f := 998) (g := g1) I1 ht h1 (by omega) (by omega)
    rw [e2]
    obtain ⟨r3, r4⟩ := r2 _ m2
    have l2 := nexts_len m2
    simp only at l2
    by_cases h2 : k2 = []
    · subst h2; exact ⟨p2, Q2, r3 rfl, fin1 Q2 p2 g2 997 I2 (r3 rfl), I2.ad⟩
    obtain ⟨Q3, k3, p3, g3, m3, I3, e3⟩ := g_iter (k := k) (ns := ns) (f := 997) (g := g2) I2 ht h2 (by omega) (by omega)
    rw [e3]
    obtain ⟨r5, r6⟩ := r4 _ m3
    simp only at r5; subst r5
    exact ⟨p3, Q3, r6, fin1 Q3 p3 g3 996 I3 r6, I3.ad⟩
  obtain ⟨gs, Q, hg, e, ad⟩ := main
  refine ⟨gs, _, hg, ?_, ad⟩
  rw [← e]
  simp [fn_law_groups, b_law_groups, entry, s0, gB, gC, Kd.s]
end
end G

set_option Elab.async false
set_option linter.all false
set_option autoImplicit false
set_option maxRecDepth 100000
set_option maxHeartbeats 4000000
/-! The laws' draws: steps, specs, values, records; the laws' own comparing. -/
namespace G
section
variable {k : Nat} {M : Mem} {ns : List Int} {t : Nat}
theorem c_lstep (hT : Town t M) (w : Nat) (hw : w = 1 ∨ w = 2) : ∃ (s : Stp) (M' : Mem), s.ok w ∧ call FT (k + 3) F_law_step [scr ns, .r t, .d (.int w)] M = .ok (.d s.d) M' ∧ Adv t M M' := by
  have ht := hT.lt
  rw [call_fn (fn := fn_law_step) rfl rfl]
  obtain ⟨i, x, M1, hx, hi, e1, a1⟩ := c_pick (k := k) (ns := ns) hT (ds := [.str [114, 97, 110, 107], .str [114, 97, 110, 107], .str [110, 117, 109, 98, 101, 114], .str [116, 101, 120, 116], .str [108, 101, 110, 103, 116, 104], .str [115, 112, 101, 108, 108, 105, 110, 103]]) (by decide) (by decide)
  have hT1 := a1.town ht
  have ht1 : t < M1.length := by rw [a1.len]; exact ht
  have hdir : ∀ nm : Nm, ∃ (s : Stp) (M' : Mem), s.ok w ∧ fin M.length ((((call FT (k + 2) F_law_pick [scr ns, .r t, .d (.lst [.str [97, 115, 99], .str [100, 101, 115, 99]])] M1).out fun w_1 M => Out.nx [some (scr ns), some (.r t), some (.d (.int w)), some (.d (.str nm.s)), some w_1] M).andThen fun σ M => evSs (call FT (k + 2)) [.ret (.tup [(.v 3), (.call F_law_draw [(.v 0), (.v 1), (.v 2)]), (.v 4)])] σ M)) = .ok (.d s.d) M' ∧ Adv t M M' := by
    intro nm
    obtain ⟨j, y, M2, hy, hj, e2, a2⟩ := c_pick (k := k) (ns := ns) hT1 (ds := [.str [97, 115, 99], .str [100, 101, 115, 99]]) (by decide) (by decide)
    obtain ⟨v, M3, e3, a3, v0, v1⟩ := c_draw (k := k + 1) (ns := ns) (a2.town ht1) (m := w) (by omega) (by omega)
    have ad := (a1.trans a2).trans a3
    have hyd : ∃ ds : Bool, y = .str (dirS ds) := by
      simp only [List.length_cons, List.length_nil] at hj
      have : j = 0 ∨ j = 1 := by omega
      rcases this with rfl | rfl
      · simp at hy; subst hy; exact ⟨false, rfl⟩
      · simp at hy; subst hy; exact ⟨true, rfl⟩
    obtain ⟨ds, rfl⟩ := hyd
    refine ⟨.dir nm v.toNat ds, M3, (show v.toNat < w by omega), ?_, ad⟩
    have hvv : ((v.toNat : Nat) : Int) = v := Int.toNat_of_nonneg v0
    simp [e2, e3, Stp.d, hvv, ad.take]
  have hrank : ∃ (s : Stp) (M' : Mem), s.ok w ∧ fin M.length ((((call FT (k + 2) F_law_groups [scr ns, .r t] M1).out fun w_1 M => Out.nx [some (scr ns), some (.r t), some (.d (.int w)), some (.d (.str [114, 97, 110, 107])), some w_1] M).andThen fun σ M => evSs (call FT (k + 2)) [.ret (.tup [(.v 3), (.call F_law_draw [(.v 0), (.v 1), (.v 2)]), (.v 4)])] σ M)) = .ok (.d s.d) M' ∧ Adv t M M' := by
    obtain ⟨gs, M2, hg, e2, a2⟩ := c_groups (k := k) (ns := ns) hT1
    obtain ⟨v, M3, e3, a3, v0, v1⟩ := c_draw (k := k + 1) (ns := ns) (a2.town ht1) (m := w) (by omega) (by omega)
    have ad := (a1.trans a2).trans a3
    refine ⟨.rank v.toNat gs, M3, ⟨show v.toNat < w by omega, hg⟩, ?_, ad⟩
    have hvv : ((v.toNat : Nat) : Int) = v := Int.toNat_of_nonneg v0
    simp [e2, e3, Stp.d, hvv, ad.take]
  have er : eqD (.str [114, 97, 110, 107]) (.str [114, 97, 110, 107]) = some (.bl true) := by rfl
  have en : ∀ nm : Nm, eqD (.str nm.s) (.str [114, 97, 110, 107]) = some (.bl false) := by intro nm; cases nm <;> rfl
  have e4 := en .number
  have e5 := en .text
  have e6 := en .length
  have e7 := en .spelling
  have d4 := hdir .number
  have d5 := hdir .text
  have d6 := hdir .length
  have d7 := hdir .spelling
  simp only [Nm.s] at e4 e5 e6 e7 d4 d5 d6 d7
  simp only [List.length_cons, List.length_nil] at hi
  have hc : i = 0 ∨ i = 1 ∨ i = 2 ∨ i = 3 ∨ i = 4 ∨ i = 5 := by omega
  rcases hc with rfl | rfl | rfl | rfl | rfl | rfl <;> simp at hx <;> subst hx
  · simpa [fn_law_step, b_law_step, entry, e1, er] using hrank
  · simpa [fn_law_step, b_law_step, entry, e1, er] using hrank
  · simpa [fn_law_step, b_law_step, entry, e1, e4] using d4
  · simpa [fn_law_step, b_law_step, entry, e1, e5] using d5
  · simpa [fn_law_step, b_law_step, entry, e1, e6] using d6
  · simpa [fn_law_step, b_law_step, entry, e1, e7] using d7
theorem all_steps {w : Nat} : ∀ (ys : List D), (∀ y ∈ ys, ∃ s : Stp, s.ok w ∧ y = s.d) → ∃ ss : List Stp, ys = ss.map Stp.d ∧ ∀ s ∈ ss, s.ok w
  | [], _ => ⟨[], rfl, by simp⟩
  | y :: ys, h => by
    obtain ⟨s, h1, rfl⟩ := h y (by simp)
    obtain ⟨ss, rfl, h2⟩ := all_steps ys fun z hz => h z (by simp [hz])
    exact ⟨s :: ss, rfl, by simpa using ⟨h1, h2⟩⟩
theorem c_lspec (hT : Town t M) (w : Nat) (hw : w = 1 ∨ w = 2) (most : Nat) (hm : most ≤ 6) : ∃ (ss : List Stp) (M' : Mem), SpecOk w ss ∧ ss.length ≤ most ∧ call FT (k + 4) F_law_spec [scr ns, .r t, .d (.int w), .d (.int most)] M = .ok (.d (specD w ss)) M' ∧ Adv t M M' := by
  have ht := hT.lt
  rw [call_fn (fn := fn_law_spec) rfl rfl]
  obtain ⟨v, M1, e1, a1, v0, v1⟩ := c_draw (k := k + 2) (ns := ns) hT (m := (most : Int) + 1) (by omega) (by omega)
  have rg := rngW_i (M := M1) (n := v) (by omega) (by omega)
  have ht1 : t < M1.length := by rw [a1.len]; exact ht
  obtain ⟨ys, M2, e2, i2, l2, p2⟩ := comp_inv (chk := fun _ => true) (bind := fun x => some [some (scr ns), some (.r t), some (.d (.int w)), some (.d (.int most)), some (.d x)]) (elt := evE (call FT (k + 3)) (.call F_law_step [(.v 0), (.v 1), (.v 2)])) (fun M' => Adv t M1 M') (fun y => ∃ s : Stp, s.ok w ∧ y = s.d)
    ((List.range v.toNat).map fun (i : Nat) => D.int (i : Int)) M1 (fun _ _ => rfl) (fun x _ => ⟨_, rfl, fun M' ha => by
      obtain ⟨s, M3, hs, e3, a3⟩ := c_lstep (k := k) (ns := ns) (ha.town ht1) w hw
      exact ⟨s.d, M3, by simp [e3], ha.trans a3, s, hs, rfl⟩⟩) (.refl (a1.town ht))
  obtain ⟨ss, rfl, hs⟩ := all_steps ys p2
  have hlen : ss.length ≤ most := by simp at l2; omega
  have ad := a1.trans i2
  refine ⟨ss, M2, ⟨hw, by omega, hs⟩, hlen, ?_, ad⟩
  simp [fn_law_spec, b_law_spec, entry, e1, rg]
  rw [cond_none]
  unfold compAll
  rw [if_pos (by simp [line]; omega), e2]
  simp [specD, stepsD, ad.take]
def texts : List (List Nat) := [[97], [98], [99], [122], [97, 97], [97, 98], [98], [98, 98], [98, 97], [99, 99], [97, 97, 97], [97, 98, 99], [98, 98, 98], [122, 122]]
theorem texts_ok : ∀ z ∈ texts, (Vl.txt z).ok := by
  have h : (texts.all fun z => decide (1 ≤ z.length ∧ z.length ≤ 12) && lettB z) = true := by decide
  intro z hz
  have := List.all_eq_true.mp h z hz
  simp only [Bool.and_eq_true, decide_eq_true_eq] at this
  exact ⟨this.1.1, this.1.2, this.2⟩
theorem c_lvalue (hT : Town t M) : ∃ (v : Vl) (M' : Mem), v.ok ∧ call FT (k + 3) F_law_value [scr ns, .r t] M = .ok (.d v.d) M' ∧ Adv t M M' := by
  have ht := hT.lt
  rw [call_fn (fn := fn_law_value) rfl rfl]
  obtain ⟨v, M1, e1, a1, v0, v1⟩ := c_draw (k := k + 1) (ns := ns) hT (m := 300) (by decide) (by decide)
  have ht1 : t < M1.length := by rw [a1.len]; exact ht
  obtain ⟨nums, hn⟩ : ∃ nums : List Nat, nums = [0, 1, 2, 3, 9, 10, 11, 12, 20, 30, 100, 102, 9 + v.toNat] := ⟨_, rfl⟩
  obtain ⟨i, x, M2, hx, hi, e2, a2⟩ := c_pick (k := k) (ns := ns) (a1.town ht) (ds := nums.map fun (n : Nat) => D.int (n : Int)) (by simp [hn]) (by simp [hn])
  have hxn : ∃ n : Nat, n ≤ 999999999 ∧ x = .int n := by
    simp only [List.getElem?_map, Option.map_eq_some_iff] at hx
    obtain ⟨n, h1, rfl⟩ := hx
    have := List.mem_of_getElem? h1
    rw [hn] at this
    simp only [List.mem_cons, List.not_mem_nil, or_false] at this
    exact ⟨n, by omega, rfl⟩
  obtain ⟨n, hn9, rfl⟩ := hxn
  have ht2 : t < M2.length := by rw [a2.len]; exact ht1
  obtain ⟨j, y, M3, hy, hj, e3, a3⟩ := c_pick (k := k) (ns := ns) (a2.town ht1) (ds := texts.map D.str) (by decide) (by decide)
  have hyt : ∃ z, (Vl.txt z).ok ∧ y = .str z := by
    simp only [List.getElem?_map, Option.map_eq_some_iff] at hy
    obtain ⟨z, h1, rfl⟩ := hy
    exact ⟨z, texts_ok z (List.mem_of_getElem? h1), rfl⟩
  obtain ⟨z, hz, rfl⟩ := hyt
  obtain ⟨l, q, M4, hq, hl, e4, a4⟩ := c_pick (k := k) (ns := ns) (a3.town ht2) (ds := [.non, .non, .int n, .str z]) (by simp) (by simp)
  have ad := ((a1.trans a2).trans a3).trans a4
  have hqv : ∃ v : Vl, v.ok ∧ q = v.d := by
    simp only [List.length_cons, List.length_nil] at hl
    have : l = 0 ∨ l = 1 ∨ l = 2 ∨ l = 3 := by omega
    rcases this with rfl | rfl | rfl | rfl <;> simp at hq <;> subst hq
    · exact ⟨.non, trivial, rfl⟩
    · exact ⟨.non, trivial, rfl⟩
    · exact ⟨.num n, hn9, rfl⟩
    · exact ⟨.txt z, hz, rfl⟩
  obtain ⟨u, hu, rfl⟩ := hqv
  refine ⟨u, M4, hu, ?_, ad⟩
  have hvv : ((v.toNat : Nat) : Int) = v := Int.toNat_of_nonneg v0
  simp [hn, hvv] at e2
  simp [texts] at e3
  simp [fn_law_value, b_law_value, entry, e1, e2, e3, e4, ad.take]
theorem all_vals : ∀ (ys : List D), (∀ y ∈ ys, ∃ s : Vl, s.ok ∧ y = s.d) → ∃ ss : List Vl, ys = ss.map Vl.d ∧ ∀ s ∈ ss, s.ok
  | [], _ => ⟨[], rfl, by simp⟩
  | y :: ys, h => by
    obtain ⟨s, h1, rfl⟩ := h y (by simp)
    obtain ⟨ss, rfl, h2⟩ := all_vals ys fun z hz => h z (by simp [hz])
    exact ⟨s :: ss, rfl, by simpa using ⟨h1, h2⟩⟩
theorem c_lrecord (hT : Town t M) (w : Nat) (hw : w = 1 ∨ w = 2) : ∃ (r : List Vl) (M' : Mem), RecOk w r ∧ call FT (k + 4) F_law_record [scr ns, .r t, .d (.int w)] M = .ok (.d (recD r)) M' ∧ Adv t M M' := by
  have ht := hT.lt
  rw [call_fn (fn := fn_law_record) rfl rfl]
  have rg := rngW_i (M := M) (n := w) (by omega) (by omega)
  obtain ⟨ys, M2, e2, i2, l2, p2⟩ := comp_inv (chk := fun _ => true) (bind := fun x => some [some (scr ns), some (.r t), some (.d (.int w)), some (.d x)]) (elt := evE (call FT (k + 3)) (.call F_law_value [(.v 0), (.v 1)])) (fun M' => Adv t M M') (fun y => ∃ s : Vl, s.ok ∧ y = s.d)
    ((List.range w).map fun (i : Nat) => D.int (i : Int)) M (fun _ _ => rfl) (fun x _ => ⟨_, rfl, fun M' ha => by
      obtain ⟨s, M3, hs, e3, a3⟩ := c_lvalue (k := k) (ns := ns) (ha.town ht)
      exact ⟨s.d, M3, by simp [e3], ha.trans a3, s, hs, rfl⟩⟩) (.refl hT)
  obtain ⟨ss, rfl, hs⟩ := all_vals ys p2
  have hlen : ss.length = w := by simpa using l2
  refine ⟨ss, M2, ⟨hlen, hs⟩, ?_, i2⟩
  simp [fn_law_record, b_law_record, entry, rg]
  rw [cond_none]
  unfold compAll
  rw [if_pos (by simp [line]; omega), e2]
  simp [recD, i2.take]

/-! ### the law's own comparing -/
theorem c_lkind (v : Vl) : call FT (k + 1) F_law_kind [.d v.d] M = .ok (.d (.str v.kd.s)) M := by
  rw [call_fn (fn := fn_law_kind) rfl rfl]
  cases v <;> simp [fn_law_kind, b_law_kind, entry, Kd.s]
theorem c_lsign_i (a b : Int) : call FT (k + 1) F_law_sign [.d (.int a), .d (.int b)] M = .ok (.d (.int (sgI a b))) M := by
  rw [call_fn (fn := fn_law_sign) rfl rfl]
  by_cases h : a = b
  · subst h; simp [fn_law_sign, b_law_sign, entry, sgI]
  · by_cases h2 : a < b
    · have h3 : ¬ b < a := by omega
      simp [fn_law_sign, b_law_sign, entry, sgI, h, h2, h3, b2i]
    · have h3 : b < a := by omega
      simp [fn_law_sign, b_law_sign, entry, sgI, h, h2, h3, b2i]
theorem c_lsign_s (a b : List Nat) (ha : D.dat (.str a) = true) (hb : D.dat (.str b) = true) : call FT (k + 1) F_law_sign [.d (.str a), .d (.str b)] M = .ok (.d (.int (sgS a b))) M := by
  rw [call_fn (fn := fn_law_sign) rfl rfl]
  have e := eq_ss ha hb
  by_cases h : a = b
  · subst h
    have e' : (a == a) = true := by simp
    rw [e'] at e
    simp [fn_law_sign, b_law_sign, entry, sgS, e, ltZ_irrefl]
  · have e' : (a == b) = false := by simpa using h
    rw [e'] at e
    cases h2 : ltS a b with
    | true => simp [fn_law_sign, b_law_sign, entry, sgS, e, h2, ltS_asymm a b h2, b2i]
    | false =>
      have h3 : ltS b a = true := by
        cases h3 : ltS b a with
        | true => rfl
        | false => exact absurd (ltS_total a b h2 h3) h
      simp [fn_law_sign, b_law_sign, entry, sgS, e, h2, h3, b2i]
theorem digitsAux_ok : ∀ (f n : Nat) (acc : List Nat), (∀ c ∈ acc, c < 58) → ∀ c ∈ digitsAux f n acc, c < 58
  | 0, _, acc, h => h
  | f + 1, n, acc, h => by
    simp only [digitsAux]
    split
    · intro c hc
      rcases List.mem_cons.mp hc with e | e
      · omega
      · exact h c e
    · exact digitsAux_ok f _ _ fun c hc => by
        rcases List.mem_cons.mp hc with e | e
        · omega
        · exact h c e
theorem dig_dat (n : Nat) : D.dat (.str (digits n)) = true := by
  refine dat_str ?_
  simp only [List.all_eq_true, decide_eq_true_eq]
  intro c hc
  have := digitsAux_ok (n + 1) n [] (by simp) c hc
  omega
theorem c_lresult (s : Stp) (w : Nat) (hs : s.ok w) (a b : Vl) (ha : a.ok) (hb : b.ok) : call FT (k + 2) F_law_result [.d s.d, .d a.d, .d b.d] M = .ok (.d (.int (stepR s a b))) M := by
  rw [call_fn (fn := fn_law_result) rfl rfl]
  have ka := c_lkind (k := k) (M := M) a
  have kb := c_lkind (k := k) (M := M) b
  cases s with
  | rank f gs =>
    have hg : gs ∈ ranks := hs.2
    have e1 : eqD (.str [114, 97, 110, 107]) (.str [114, 97, 110, 107]) = some (.bl true) := by rfl
    have inner : ∀ x : Kd, ∀ σ : Sl, σ[5]? = some (some (.d (gsD gs))) → σ[9]? = some (some (.d (.str x.s))) → 10 < σ.length → evE (call FT (k + 1)) (.un .indexTrue (.comp 0 (.nm 10) (.seq (.v 5)) none (.op .in_ (.v 9) (.v 10)))) σ M = .ok (.d (.int (rkOf gs x))) M := by
      intro x σ h5 h9 h10
      simp only [x_un, x_comp, x_seq, x_v, h5, bind_ok, asD_d, ofO_some]
      rw [gsD]
      simp only [it_t, ofO_some, bind_ok]
      rw [cond_none, comp_all grD (fun g => (σ.set 10 none).set 10 (some (.d (grD g)))) (fun g => .bl (g.contains x)) (by simp) gs (ranks_len gs hg)]
      · have e : ((gs.map fun g => g.contains x).any id) = true := by
          have := rk_any gs hg x
          simpa [List.any_map, Function.comp_def] using this
        simp only [bind_ok, mk_0, asD_d, ofO_some, idx_l, boolsOf_map', Option.bind_some, e, if_true, findIdx_map]
        rfl
      · intro g hg
        refine ⟨by simp, ?_⟩
        have l9 : ((σ.set 10 none).set 10 (some (.d (grD g))))[9]? = some (some (.d (.str x.s))) := by
          rw [List.getElem?_set_ne (by omega), List.getElem?_set_ne (by omega)]; exact h9
        have l10 : ((σ.set 10 none).set 10 (some (.d (grD g))))[10]? = some (some (.d (grD g))) := List.getElem?_set_self (by simpa using h10)
        simp only [x_op, x_v, l9, l10, bind_ok, asD_d, ofO_some, o_in, in_gr, Option.map_some]
    simp [fn_law_result, b_law_result, entry, Stp.d, ka, kb, e1]
    have hcl : compAll (still (.d (.tup [.str a.kd.s, .str b.kd.s])) (.tup [.str a.kd.s, .str b.kd.s])) (fun x => bindT (.nm 9) x (wipe [some (.d (.tup [.str [114, 97, 110, 107], .int f, gsD gs])), some (.d a.d), some (.d b.d), some (.d (.str [114, 97, 110, 107])), some (.d (.int f)), some (.d (gsD gs)), some (.d (.tup [.str a.kd.s, .str b.kd.s])), none, none, none, none] (Tg.vars (.nm 9)))) (fun _ M => .ok (.d (.bl true)) M)
        (evE (call FT (k + 1)) (.un .indexTrue (.comp 0 (.nm 10) (.seq (.v 5)) none (.op .in_ (.v 9) (.v 10))))) ([a.kd, b.kd].map fun x => D.str x.s) M = .ok ([a.kd, b.kd].map fun x => D.int (rkOf gs x)) M :=
      comp_all (fun x => D.str x.s) (fun x => [some (.d (.tup [.str [114, 97, 110, 107], .int f, gsD gs])), some (.d a.d), some (.d b.d), some (.d (.str [114, 97, 110, 107])), some (.d (.int f)), some (.d (gsD gs)), some (.d (.tup [.str a.kd.s, .str b.kd.s])), none, none, some (.d (.str x.s)), none]) _ (by simp) _ (by simp [line]) fun x _ => ⟨by simp, inner x _ rfl rfl (by simp)⟩
    simp only [List.map_cons, List.map_nil] at hcl
    rw [cond_none]
    simp only [vars_nm, wipe_1, wipe_0, List.set_cons_succ, List.set_cons_zero, bT_nm] at hcl ⊢
    rw [hcl]
    simp [c_lsign_i, stepR]
  | dir nm f ds =>
    have hdd : eqD (.str (dirS ds)) (.str [97, 115, 99]) = some (.bl (!ds)) := by cases ds <;> rfl
    have r0 : ∀ nm : Nm, eqD (.str nm.s) (.str [114, 97, 110, 107]) = some (.bl false) := fun nm => by cases nm <;> rfl
    have r1 : ∀ nm : Nm, eqD (.str nm.s) (.str [110, 117, 109, 98, 101, 114]) = some (.bl (decide (nm = .number))) := fun nm => by cases nm <;> rfl
    have r2 : ∀ nm : Nm, eqD (.str nm.s) (.str [116, 101, 120, 116]) = some (.bl (decide (nm = .text))) := fun nm => by cases nm <;> rfl
    have r3 : ∀ nm : Nm, inD (.str nm.s) (.tup [.str [116, 101, 120, 116], .str [108, 101, 110, 103, 116, 104]]) = some (decide (nm = .text) || decide (nm = .length)) := fun nm => by cases nm <;> rfl
    have r4 : ∀ nm : Nm, eqD (.str nm.s) (.str [115, 112, 101, 108, 108, 105, 110, 103]) = some (.bl (decide (nm = .spelling))) := fun nm => by cases nm <;> rfl
    have n2 : ∀ x y : Kd, inD (.str [110, 111, 110, 101]) (.tup [.str x.s, .str y.s]) = some (decide (x = .non) || decide (y = .non)) := fun x y => by cases x <;> cases y <;> rfl
    have e2n : ∀ x y : Kd, eqD (.tup [.str x.s, .str y.s]) (.tup [.str [110, 117, 109, 98, 101, 114], .str [110, 117, 109, 98, 101, 114]]) = some (.bl (decide (x = .num) && decide (y = .num))) := fun x y => by cases x <;> cases y <;> rfl
    have e2t : ∀ x y : Kd, eqD (.tup [.str x.s, .str y.s]) (.tup [.str [116, 101, 120, 116], .str [116, 101, 120, 116]]) = some (.bl (decide (x = .txt) && decide (y = .txt))) := fun x y => by cases x <;> cases y <;> rfl
    have la : ∀ z, a = .txt z → z.length ≤ line := fun z e => by subst e; have := ha.2.1; unfold line; omega
    have lb : ∀ z, b = .txt z → z.length ≤ line := fun z e => by subst e; have := hb.2.1; unfold line; omega
    have da : ∀ z, a = .txt z → D.dat (.str z) = true := fun z e => by subst e; exact lett_dat ha.2.2
    have db : ∀ z, b = .txt z → D.dat (.str z) = true := fun z e => by subst e; exact lett_dat hb.2.2
    have na : ∀ n, a = .num n → n ≤ 999999999 := fun n e => by subst e; exact ha
    have nb : ∀ n, b = .num n → n ≤ 999999999 := fun n e => by subst e; exact hb
    simp only [fn_law_result, b_law_result, entry, Stp.d, List.map_cons, List.map_nil, List.length_cons, List.length_nil, List.replicate, List.cons_append, List.nil_append, Nat.reduceAdd, Nat.reduceSub, x_ss, x_asgT, x_v, List.getElem?_cons_zero, List.getElem?_cons_succ, out_ok, asD_d, ofOut_some, unW_t, bTs_1, bT_nm, Option.bind_some, bTs_0, List.set_cons_succ, List.set_cons_zero, then_nx,
      x_asg, x_tup, x_ds, x_call, x_es, x_es0, bind_ok, ka, kb, x_ds0, consW_d, put_eq, x_iff, x_op, x_c, ofO_some, o_eq, r0, r1, r2, r4, e2n, e2t, n2, ifO_bl, Bool.false_eq_true, if_false, x_ss0, x_and, x_and1, x_and2, ifR_bl, ok_and, then_ite, o_in, o_notin, r3, Option.map_some, x_ret, x_ife, hdd, x_un]
    cases nm <;> cases a <;> cases b <;> simp [r0, r1, r2, r3, r4, n2, e2n, e2t, hdd, base, c_lsign_i, c_lsign_s, len_s, la, lb, da, db, na, nb, str_n, dig_dat, spell, stepR, then_ite, fin_ite] <;> cases ds <;> simp
end
end G

set_option Elab.async false
set_option linter.all false
set_option autoImplicit false
set_option maxRecDepth 100000
set_option maxHeartbeats 4000000
/-! The law k01. -/
namespace G
theorem for_inv {chk : Mem → Bool} {bind : D → Sl → Option Sl} {body : Sl → Mem → Out} (Inv : Sl → Mem → Prop) : ∀ (xs : List D) (σ : Sl) (M : Mem), (∀ σ M, Inv σ M → chk M = true) → (∀ x ∈ xs, ∀ σ M, Inv σ M → ∃ σ1, bind x σ = some σ1 ∧ ∃ σ2 M2, body σ1 M = .nx σ2 M2 ∧ Inv σ2 M2) → Inv σ M →
    ∃ σ' M', forLoop chk bind body xs σ M = .nx σ' M' ∧ Inv σ' M'
  | [], σ, M, hc, _, h => ⟨σ, M, by simp [forLoop, hc σ M h], h⟩
  | x :: xs, σ, M, hc, hb, h => by
    obtain ⟨σ1, h1, σ2, M2, h2, h3⟩ := hb x (by simp) σ M h
    obtain ⟨σ', M', h4, h5⟩ := for_inv Inv xs σ2 M2 hc (fun y hy => hb y (by simp [hy])) h3
    exact ⟨σ', M', by simp [forLoop, hc σ M h, h1, h2, h4], h5⟩
section
variable {k : Nat} {M : Mem} {ns : List Int} {t : Nat}
theorem forLoop_lsteps {w : Nat} {a b : List Vl} (ha : RecOk w a) (hb : RecOk w b) (x0 : W) : ∀ (ss : List Stp) (_ : ∀ s ∈ ss, s.ok w) (y z : Option W),
    fin M.length ((forLoop (fun _ => true) (fun x σ => bindT (.nm 3) x σ) (evSs (call FT (k + 2)) [.asg (.nm 4) (.call F_law_result [(.v 3), (.op .ix (.v 1) (.op .ix (.v 3) (.c (.int 1)))), (.op .ix (.v 2) (.op .ix (.v 3) (.c (.int 1))))]),
      .iff (.op .ne (.v 4) (.c (.int 0))) [.ret (.v 4)] []]) (ss.map Stp.d) [some x0, some (.d (recD a)), some (.d (recD b)), y, z] M).andThen fun σ M => evSs (call FT (k + 2)) [.ret (.c (.int 0))] σ M) = .ok (.d (.int (cmpR ss a b))) M
  | [], _, y, z => by simp [forLoop, cmpR]
  | s :: ss, h, y, z => by
    have hs := h s (by simp)
    have hf := stp_ok_fld hs
    have ih := forLoop_lsteps ha hb x0 ss (fun s hs => h s (by simp [hs])) (some (.d s.d)) (some (.d (.int 0)))
    have e1 : at_ (a.map Vl.d) (s.fld : Int) = some (fldOf a s.fld).d := rec_at (by rw [ha.1]; exact hf)
    have e2 : at_ (b.map Vl.d) (s.fld : Int) = some (fldOf b s.fld).d := rec_at (by rw [hb.1]; exact hf)
    have e3 := c_lresult (k := k) (M := M) s w hs (fldOf a s.fld) (fldOf b s.fld) (fld_ok ha hf) (fld_ok hb hf)
    simp only [List.map_cons, forLoop, if_true]
    simp [stp_at1, recD, e1, e2, e3, cmpR]
    by_cases h0 : stepR s (fldOf a s.fld) (fldOf b s.fld) = 0
    · simp [h0]; simpa [recD] using ih
    · simp [h0]
theorem c_lcompare {w : Nat} {ss : List Stp} (hs : ∀ s ∈ ss, s.ok w) {a b : List Vl} (ha : RecOk w a) (hb : RecOk w b) : call FT (k + 3) F_law_compare [.d (stepsD ss), .d (recD a), .d (recD b)] M = .ok (.d (.int (cmpR ss a b))) M := by
  rw [call_fn (fn := fn_law_compare) rfl rfl]
  have e := forLoop_lsteps (k := k) (M := M) ha hb (.d (stepsD ss)) ss hs none none
  have e2 : still (.d (stepsD ss)) (stepsD ss) = fun _ => true := by funext M; rfl
  simp [fn_law_compare, b_law_compare, entry]
  simp [stepsD] at e e2 ⊢
  rw [e2]
  simpa using e
@[simp] theorem spec_at0 (w : Nat) (ss : List Stp) : ixD (specD w ss) (.int 0) = some (.int w) := by rfl
@[simp] theorem spec_at1 (w : Nat) (ss : List Stp) : ixD (specD w ss) (.int 1) = some (stepsD ss) := by rfl
@[simp] theorem steps_len (ss : List Stp) : biD .len [stepsD ss] = some (.int ss.length) := by simp [stepsD]
theorem rev_rev (ss : List Stp) : (ss.map revS).map revS = ss := by simp [Function.comp_def, revS_rev]
theorem okd_stp (s : Stp) : D.okd 5 s.d = true := by
  cases s with
  | rank f gs =>
    simp only [Stp.d, D.okd, List.all_cons, List.all_nil, gsD, List.all_map, Bool.and_true, Bool.and_eq_true, List.all_eq_true, decide_eq_true_eq]
    refine ⟨by decide, trivial, fun g _ => ?_⟩
    simp only [Function.comp, grD, D.okd, List.all_map, List.all_eq_true]
    intro x _; cases x <;> decide
  | dir nm f ds => cases nm <;> cases ds <;> rfl
theorem dat_spec (w : Nat) (ss : List Stp) : D.dat (specD w ss) = true := by
  refine dat_tup fun x hx => ?_
  simp only [List.mem_cons, List.not_mem_nil, or_false] at hx
  rcases hx with rfl | rfl
  · rfl
  · simp only [stepsD, D.okd, List.all_map, List.all_eq_true]
    exact fun s _ => okd_mono (by omega) (okd_stp s)
mutual
theorem D.eqv_refl : ∀ (n : Nat) (x : D), D.okd n x = true → D.eqv x x = true
  | n, .non, _ => by simp
  | n, .bl b, _ => by simp
  | n, .int i, _ => by simp
  | n, .str z, _ => by simp
  | n + 1, .tup ds, h => by simp only [D.okd] at h; simp only [eqv_tt]; exact D.eqvs_refl n ds h
  | n + 1, .ktup ds, h => by simp only [D.okd] at h; simp only [D.eqv]; exact D.eqvs_refl n ds h
  | n + 1, .lst ds, h => by simp only [D.okd] at h; simp only [eqv_ll]; exact D.eqvs_refl n ds h
  | n + 1, .frz ds, h => by simp only [D.okd] at h; simp only [D.eqv]; exact D.eqvs_refl n ds h
  | 0, .tup ds, h => by simp [D.okd] at h
  | 0, .ktup ds, h => by simp [D.okd] at h
  | 0, .lst ds, h => by simp [D.okd] at h
  | 0, .frz ds, h => by simp [D.okd] at h
  | n, .dct _ _, h => by simp [D.okd] at h
  | n, .dcf _ _, h => by simp [D.okd] at h
  | n, .fn _, h => by simp [D.okd] at h
theorem D.eqvs_refl : ∀ (n : Nat) (xs : List D), xs.all (D.okd n) = true → D.eqvs xs xs = true
  | n, [], _ => by simp
  | n, x :: xs, h => by
    simp only [List.all_cons, Bool.and_eq_true] at h
    simp only [eqvs_3, D.eqv_refl n x h.1, D.eqvs_refl n xs h.2, Bool.and_self]
end
theorem eq_refl {x : D} (h : D.dat x = true) : eqD x x = some (.bl true) := by rw [eqD_of h h, D.eqv_refl 50 x h]
theorem law_k01 : ∀ ns : List Int, ns.length ≤ 63 → ∃ M, call FT 20 F_law_k01 [.d (.frz (ns.map .int))] [] = .ok (.d (.bl true)) M := by
  intro ns _
  rw [call_fn (fn := fn_law_k01) rfl rfl]
  have hT : Town 0 [O.lst [.int 0, .int 0]] := ⟨0, 0, rfl, by decide, by decide⟩
  obtain ⟨v, M1, e1, a1, v0, v1⟩ := c_draw (k := 18) (ns := ns) hT (m := 2) (by decide) (by decide)
  have T1 := a1.town hT.lt
  obtain ⟨w, hw, hwv⟩ : ∃ w : Nat, (w = 1 ∨ w = 2) ∧ (1 + v : Int) = (w : Int) := ⟨(1 + v).toNat, by omega, by omega⟩
  obtain ⟨ss, M2, hs, _, e2, a2⟩ := c_lspec (k := 15) (ns := ns) T1 w hw 6 (by decide)
  have T2 := a2.town T1.lt
  obtain ⟨tt, M3, ht, htl, e3, a3⟩ := c_lspec (k := 15) (ns := ns) T2 w hw 3 (by decide)
  have T3 := a3.town T2.lt
  have e4 := fun M => c_is_spec (k := 16) (M := M) w ss hs
  have e5 := fun M => c_is_spec (k := 16) (M := M) w tt ht
  have e6 := fun M => c_reversed_spec (k := 14) (M := M) w ss hs
  have hr := rev_specOk hs
  have e7 := fun M => c_is_spec (k := 16) (M := M) w _ hr
  have e8 := fun M => c_reversed_spec (k := 14) (M := M) w _ hr
  simp only [Nat.reduceAdd, rev_rev] at e1 e4 e5 e6 e7 e8
  have rg : rngW M3 (.d (.int 8)) = _ := rngW_i (M := M3) (n := 8) (by decide) (by decide)
  obtain ⟨σ', M4, e9, i9⟩ := for_inv (chk := fun _ => true) (bind := fun x σ => bindT (.nm 6) x σ) (body := evSs (call FT 19) [.par [7, 8] [(.call F_law_record [(.v 0), (.v 1), (.v 2)]), (.call F_law_record [(.v 0), (.v 1), (.v 2)])],
      .asg (.nm 9) (.call F_law_compare [(.op .ix (.v 3) (.c (.int 1))), (.v 7), (.v 8)]),
      .iff (.or [(.op .ne (.call F_compare [(.v 3), (.v 7), (.v 8)]) (.v 9)), (.op .ne (.call F_compare [(.v 3), (.v 8), (.v 7)]) (.un .neg (.v 9)))]) [.ret (.c (.bl false))] [],
      .iff (.op .ne (.call F_compare [(.v 5), (.v 7), (.v 8)]) (.un .neg (.v 9))) [.ret (.c (.bl false))] [],
      .iff (.op .ne (.call F_compare [(.v 3), (.v 7), (.v 7)]) (.c (.int 0))) [.ret (.c (.bl false))] [],
      .iff (.op .lt (.bi .len [(.op .ix (.v 3) (.c (.int 1)))]) (.c (.int 4))) [.asg (.nm 10) (.call F_compare [(.call F_combined [(.v 3), (.v 4)]), (.v 7), (.v 8)]),
        .iff (.op .ne (.v 10) (.ife (.op .ne (.v 9) (.c (.int 0))) (.v 9) (.call F_law_compare [(.op .ix (.v 4) (.c (.int 1))), (.v 7), (.v 8)]))) [.ret (.c (.bl false))] []] []])
    (fun σ M => Town 0 M ∧ ∃ a b c d e, σ = [some (scr ns), some (.r 0), some (.d (.int w)), some (.d (specD w ss)), some (.d (specD w tt)), some (.d (specD w (ss.map revS))), a, b, c, d, e])
    ((List.range (Int.toNat 8)).map fun (i : Nat) => D.int (i : Int)) [some (scr ns), some (.r 0), some (.d (.int w)), some (.d (specD w ss)), some (.d (specD w tt)), some (.d (specD w (ss.map revS))), none, none, none, none, none] M3
    (fun _ _ _ => rfl) (fun x _ σ M ⟨hTM, a, b, c, d, e, hσ⟩ => by
      subst hσ
      refine ⟨_, by simp; rfl, ?_⟩
      obtain ⟨r1, M5, hr1, f1, b1⟩ := c_lrecord (k := 15) (ns := ns) hTM w hw
      have T5 := b1.town hTM.lt
      obtain ⟨r2, M6, hr2, f2, b2⟩ := c_lrecord (k := 15) (ns := ns) T5 w hw
      have T6 := b2.town T5.lt
      have f3 := c_lcompare (k := 16) (M := M6) (w := w) hs.2.2 hr1 hr2
      have f4 := c_compare (k := 14) (M := M6) w ss hs r1 r2 hr1 hr2
      have f5 := c_compare (k := 14) (M := M6) w ss hs r2 r1 hr2 hr1
      have f6 := c_compare (k := 14) (M := M6) w _ hr r1 r2 hr1 hr2
      have f7 := c_compare (k := 14) (M := M6) w ss hs r1 r1 hr1 hr1
      have f8 := c_lcompare (k := 16) (M := M6) (w := w) ht.2.2 hr1 hr2
      rw [cmpR_neg] at f5
      rw [cmpR_rev _ hs.2.2] at f6
      rw [cmpR_self] at f7
      simp only [Nat.reduceAdd] at f1 f2 f3 f4 f5 f6 f7 f8
      by_cases hl : ss.length < 4
      · have f9 := c_combined (k := 13) (M := M6) w ss tt hs ht (by omega)
        have hst : SpecOk w (ss ++ tt) := ⟨hw, by simp; omega, fun s h => (List.mem_append.mp h).elim (hs.2.2 s) (ht.2.2 s)⟩
        have f10 := c_compare (k := 14) (M := M6) w _ hst r1 r2 hr1 hr2
        rw [cmpR_append] at f10
        simp only [Nat.reduceAdd] at f9 f10
        have hl' : (ss.length : Int) < 4 := by omega
        refine ⟨[some (scr ns), some (.r 0), some (.d (.int w)), some (.d (specD w ss)), some (.d (specD w tt)), some (.d (specD w (ss.map revS))), some (.d x), some (.d (recD r1)), some (.d (recD r2)), some (.d (.int (cmpR ss r1 r2))), some (.d (.int (if cmpR ss r1 r2 ≠ 0 then cmpR ss r1 r2 else cmpR tt r1 r2)))], M6, ?_, T6, _, _, _, _, _, rfl⟩
        by_cases h0 : cmpR ss r1 r2 = 0
        · simp [f1, f2, f3, f4, f5, f6, f7, f8, f9, f10, hl', h0]
        · simp [f1, f2, f3, f4, f5, f6, f7, f8, f9, f10, hl', h0]
      · have hl' : ¬ (ss.length : Int) < 4 := by omega
        refine ⟨[some (scr ns), some (.r 0), some (.d (.int w)), some (.d (specD w ss)), some (.d (specD w tt)), some (.d (specD w (ss.map revS))), some (.d x), some (.d (recD r1)), some (.d (recD r2)), some (.d (.int (cmpR ss r1 r2))), e], M6, ?_, T6, _, _, _, _, _, rfl⟩
        simp [f1, f2, f3, f4, f5, f6, f7, hl']) ⟨T3, _, _, _, _, _, rfl⟩
  obtain ⟨T4, p1, p2, p3, p4, p5, rfl⟩ := i9
  have e10 := eq_refl (dat_spec w ss)
  refine ⟨M4.take 0, ?_⟩
  simp at e2 e3
  simp [fn_law_k01, b_law_k01, entry, e1, hwv, e2, e3, e4, e5, e6, rg]
  simp at e9
  rw [e9]
  simp [e7, e8, rev_rev, e10]
end
end G

set_option Elab.async false
set_option linter.all false
set_option autoImplicit false
set_option maxRecDepth 100000
set_option maxHeartbeats 4000000
/-! Exceptions: what leaves the defs of specs at invalid values. -/
namespace G
abbrev rsd (j : Int) : D := .tup [.str [114, 97, 105, 115, 101, 100], .int j]
theorem ne_refl {d : D} (h : D.dat d = true) : neD d d = some (.bl false) := by
  rw [neD_of h h, D.eqv_refl 50 d h]; rfl
theorem rsd_dat (j : Int) : D.dat (rsd j) = true := by rfl
theorem rsd_ne (j : Int) : neD (rsd j) (rsd j) = some (.bl false) := ne_refl (rsd_dat j)
section
variable {Γ : Nat → List W → Mem → R W} {σ : Sl} {M : Mem} {k : Nat}
theorem x_try (xs : List Nat) (b : List Sm) : evS Γ (.tryW xs b) σ M = tryO xs (evSs Γ b σ M) := by simp only [evS]
theorem try_ret (xs : List Nat) (w : W) : tryO xs (.ret w M) = .ret w M := (rfl)
theorem try_exc {xs : List Nat} {c : Nat} (h : xs.contains c = true) : tryO xs (.exc c M) = .ret (.d (rsd ((c : Int) - 1))) M := by
  simp only [tryO, h, if_true]; rfl
def nineX : List Nat := [X_InvalidSpec, X_InvalidRecord, X_InvalidList, X_Incomparable, X_TooLong, X_Inconsistent, X_Unsorted, X_NotFound, X_InvalidFormat]
/-! ### the defs raise -/
/-- a small memory, by its length -/
theorem small_mem {P : Mem → Prop} (h0 : P []) (h1 : ∀ a, P [a]) (h2 : ∀ a b, P [a, b]) (h3 : ∀ a b c, P [a, b, c]) (h4 : ∀ a b c d, P [a, b, c, d]) : ∀ M : Mem, M.length ≤ 4 → P M
  | [], _ => h0
  | [a], _ => h1 a
  | [a, b], _ => h2 a b
  | [a, b, c], _ => h3 a b c
  | [a, b, c, d], _ => h4 a b c d
  | _ :: _ :: _ :: _ :: _ :: _, h => by simp at h
def NoSpec (x : D) : Prop := ∀ (k : Nat) (M : Mem), M.length ≤ 4 → call FT (k + 4) F_is_spec [.d x] M = .ok (.d (.bl false)) M
def NoRec (w : Nat) (x : D) : Prop := ∀ (k : Nat) (M : Mem), M.length ≤ 4 → call FT (k + 3) F_is_record [.d x, .d (.int w)] M = .ok (.d (.bl false)) M
theorem c_need_spec_x {x : D} (h : NoSpec x) (hM : M.length ≤ 4) : call FT (k + 5) F_need_spec [.d x] M = .exc X_InvalidSpec M := by
  rw [call_fn (fn := fn_need_spec) rfl rfl]
  simp [fn_need_spec, b_need_spec, entry, h k M hM, fin_exc]
theorem c_need_record_x {w : Nat} {ss : List Stp} {x : D} (h : NoRec w x) (hM : M.length ≤ 4) : call FT (k + 4) F_need_record [.d (specD w ss), .d x] M = .exc X_InvalidRecord M := by
  rw [call_fn (fn := fn_need_record) rfl rfl]
  simp [fn_need_record, b_need_record, entry, h k M hM, fin_exc]
theorem c_compare_x {x : D} (h : NoSpec x) (hM : M.length ≤ 4) (a b : W) : call FT (k + 6) F_compare [.d x, a, b] M = .exc X_InvalidSpec M := by
  rw [call_fn (fn := fn_compare) rfl rfl]
  simp [fn_compare, b_compare, entry, c_need_spec_x h hM, fin_exc]
theorem c_compare_a {w : Nat} {ss : List Stp} (hs : SpecOk w ss) {x : D} (h : NoRec w x) (hM : M.length ≤ 4) (b : W) : call FT (k + 6) F_compare [.d (specD w ss), .d x, b] M = .exc X_InvalidRecord M := by
  rw [call_fn (fn := fn_compare) rfl rfl]
  simp [fn_compare, b_compare, entry, c_need_spec w ss hs, c_need_record_x h hM, fin_exc]
theorem c_compare_b {w : Nat} {ss : List Stp} (hs : SpecOk w ss) {r : List Vl} (hr : RecOk w r) {x : D} (h : NoRec w x) (hM : M.length ≤ 4) : call FT (k + 6) F_compare [.d (specD w ss), .d (recD r), .d x] M = .exc X_InvalidRecord M := by
  rw [call_fn (fn := fn_compare) rfl rfl]
  have hw : w ≤ 2 := by rcases hs.1 with h | h <;> omega
  simp [fn_compare, b_compare, entry, c_need_spec w ss hs, c_need_record w hw ss r hr, c_need_record_x h hM, fin_exc]
theorem c_reversed_x {x : D} (h : NoSpec x) (hM : M.length ≤ 4) : call FT (k + 6) F_reversed_spec [.d x] M = .exc X_InvalidSpec M := by
  rw [call_fn (fn := fn_reversed_spec) rfl rfl]
  simp [fn_reversed_spec, b_reversed_spec, entry, c_need_spec_x h hM, fin_exc]
theorem c_pair_x {x : D} (h : NoSpec x) (hM : M.length ≤ 4) (b : W) : call FT (k + 6) F_need_pair [.d x, b] M = .exc X_InvalidSpec M := by
  rw [call_fn (fn := fn_need_pair) rfl rfl]
  simp [fn_need_pair, b_need_pair, entry, c_need_spec_x h hM, fin_exc]
theorem c_pair_b {w : Nat} {ss : List Stp} (hs : SpecOk w ss) {x : D} (h : NoSpec x) (hM : M.length ≤ 4) : call FT (k + 6) F_need_pair [.d (specD w ss), .d x] M = .exc X_InvalidSpec M := by
  rw [call_fn (fn := fn_need_pair) rfl rfl]
  simp [fn_need_pair, b_need_pair, entry, c_need_spec w ss hs, c_need_spec_x h hM, fin_exc]
theorem c_pair_w {w w' : Nat} {ss tt : List Stp} (hs : SpecOk w ss) (ht : SpecOk w' tt) (h : w ≠ w') : call FT (k + 6) F_need_pair [.d (specD w ss), .d (specD w' tt)] M = .exc X_Incomparable M := by
  rw [call_fn (fn := fn_need_pair) rfl rfl]
  have h2 : ¬ ((w : Int) = (w' : Int)) := by omega
  simp [fn_need_pair, b_need_pair, entry, c_need_spec w ss hs, c_need_spec w' tt ht, fin_exc, h, h2]
theorem c_comb_x {x : D} (h : NoSpec x) (hM : M.length ≤ 4) (b : W) : call FT (k + 7) F_combined [.d x, b] M = .exc X_InvalidSpec M := by
  rw [call_fn (fn := fn_combined) rfl rfl]
  simp [fn_combined, b_combined, entry, c_pair_x h hM, fin_exc]
theorem c_comb_b {w : Nat} {ss : List Stp} (hs : SpecOk w ss) {x : D} (h : NoSpec x) (hM : M.length ≤ 4) : call FT (k + 7) F_combined [.d (specD w ss), .d x] M = .exc X_InvalidSpec M := by
  rw [call_fn (fn := fn_combined) rfl rfl]
  simp [fn_combined, b_combined, entry, c_pair_b hs h hM, fin_exc]
theorem c_comb_w {w w' : Nat} {ss tt : List Stp} (hs : SpecOk w ss) (ht : SpecOk w' tt) (h : w ≠ w') : call FT (k + 7) F_combined [.d (specD w ss), .d (specD w' tt)] M = .exc X_Incomparable M := by
  rw [call_fn (fn := fn_combined) rfl rfl]
  simp [fn_combined, b_combined, entry, c_pair_w hs ht h, fin_exc]
theorem c_comb_l {w : Nat} {ss tt : List Stp} (hs : SpecOk w ss) (ht : SpecOk w tt) (hl : 6 < ss.length + tt.length) : call FT (k + 6) F_combined [.d (specD w ss), .d (specD w tt)] M = .exc X_TooLong M := by
  rw [call_fn (fn := fn_combined) rfl rfl]
  have e1 := c_need_pair (k := k) (M := M) w ss tt hs ht
  have l1 := hs.2.1
  have l2 := ht.2.1
  have e3 : addD (stepsD ss) (stepsD tt) = some (stepsD (ss ++ tt)) := by
    rw [stepsD, stepsD, add_tt (by simp; unfold line; omega)]; simp [stepsD]
  have e4 : (6 : Int) < ((ss ++ tt).length : Nat) := by rw [List.length_append]; omega
  have e5 : (6 : Int) < (ss.length : Int) + tt.length := by omega
  simp [fn_combined, b_combined, entry, e1, e3, fin_exc, e4, e5]
end
end G

set_option Elab.async false
set_option linter.all false
set_option autoImplicit false
set_option maxRecDepth 100000
set_option maxHeartbeats 4000000
/-! The invalid values of k02. -/
namespace G
def badL : List D := [.non,
  .tup [],
  .tup [.int 1],
  .tup [.int 0, .tup []],
  .tup [.int 3, .tup []],
  .tup [.bl true, .tup []],
  .tup [.int 1, .lst [.tup [.str [110, 117, 109, 98, 101, 114], .int 0, .str [97, 115, 99]]]],
  .lst [.int 1, .tup [.tup [.str [110, 117, 109, 98, 101, 114], .int 0, .str [97, 115, 99]]]],
  .tup [.int 1, .tup [.tup [.str [110, 117, 109, 98, 101, 114], .int 0, .str [97, 115, 99]], .tup [.str [110, 117, 109, 98, 101, 114], .int 0, .str [97, 115, 99]], .tup [.str [110, 117, 109, 98, 101, 114], .int 0, .str [97, 115, 99]], .tup [.str [110, 117, 109, 98, 101, 114], .int 0, .str [97, 115, 99]], .tup [.str [110, 117, 109, 98, 101, 114], .int 0, .str [97, 115, 99]], .tup [.str [110, 117, 109, 98, 101, 114], .int 0, .str [97, 115, 99]], .tup [.str [110, 117, 109, 98, 101, 114], .int 0, .str [97, 115, 99]]]],
  .tup [.int 1, .tup [.non]],
  .tup [.int 1, .tup [.tup [.str [110, 117, 109, 98, 101, 114], .int 0, .str [97, 115, 99]]], .int 0],
  .tup [.str [49], .tup []],
  .tup [.int 1, .tup [.tup [.str [110, 117, 109, 98, 101, 114], .int 1, .str [97, 115, 99]]]],
  .tup [.int 1, .tup [.tup [.str [110, 117, 109, 98, 101, 114], .int (-1), .str [97, 115, 99]]]],
  .tup [.int 1, .tup [.tup [.str [110, 117, 109, 98, 101, 114], .bl true, .str [97, 115, 99]]]],
  .tup [.int 1, .tup [.tup [.str [110, 117, 109, 98, 101, 114], .int 0]]],
  .tup [.int 1, .tup [.lst [.str [110, 117, 109, 98, 101, 114], .int 0, .str [97, 115, 99]]]],
  .tup [.int 1, .tup [.tup [.str [115, 105, 122, 101], .int 0, .str [97, 115, 99]]]],
  .tup [.int 1, .tup [.tup [.str [110, 117, 109, 98, 101, 114], .int 0, .str [117, 112]]]],
  .tup [.int 1, .tup [.tup [.str [110, 117, 109, 98, 101, 114], .int 0, .non]]],
  .tup [.int 1, .tup [.tup [.str [110, 117, 109, 98, 101, 114], .int 0, .lst [.str [97, 115, 99]]]]],
  .tup [.int 1, .tup [.tup [.str [110, 117, 109, 98, 101, 114], .int 0, .tup [.str [97, 115, 99]]]]],
  .tup [.int 1, .tup [.tup [.str [110, 117, 109, 98, 101, 114], .int 0, .tup [.tup [.str [110, 111, 110, 101]], .tup [.str [110, 117, 109, 98, 101, 114]], .tup [.str [116, 101, 120, 116]]]]]],
  .tup [.int 1, .tup [.tup [.str [110, 117, 109, 98, 101, 114], .int 0, .str [65, 83, 67]]]],
  .tup [.int 1, .tup [.tup [.str [110, 117, 109, 98, 101, 114], .int 0, .str []]]],
  .tup [.int 1, .tup [.tup [.str [114, 97, 110, 107], .int 0, .str [97, 115, 99]]]],
  .tup [.int 1, .tup [.tup [.str [114, 97, 110, 107], .int 0, .tup []]]],
  .tup [.int 1, .tup [.tup [.str [114, 97, 110, 107], .int 0, .tup [.tup [.str [110, 111, 110, 101]], .tup [.str [110, 117, 109, 98, 101, 114]]]]]],
  .tup [.int 1, .tup [.tup [.str [114, 97, 110, 107], .int 0, .tup [.tup [.str [110, 111, 110, 101]], .tup [.str [110, 117, 109, 98, 101, 114]], .tup [.str [116, 101, 120, 116]], .tup []]]]],
  .tup [.int 1, .tup [.tup [.str [114, 97, 110, 107], .int 0, .tup [.tup [.str [110, 111, 110, 101]], .tup [.str [110, 117, 109, 98, 101, 114]], .tup [.str [116, 101, 120, 116]], .tup [.str [116, 101, 120, 116]]]]]],
  .tup [.int 1, .tup [.tup [.str [114, 97, 110, 107], .int 0, .tup [.tup [.str [110, 111, 110, 101], .str [116, 101, 120, 116], .str [110, 117, 109, 98, 101, 114]]]]]],
  .tup [.int 1, .tup [.tup [.str [114, 97, 110, 107], .int 0, .tup [.tup [.str [110, 117, 109, 98, 101, 114], .str [110, 111, 110, 101]], .tup [.str [116, 101, 120, 116]]]]]],
  .tup [.int 1, .tup [.tup [.str [114, 97, 110, 107], .int 0, .lst [.tup [.str [110, 111, 110, 101]], .tup [.str [110, 117, 109, 98, 101, 114]], .tup [.str [116, 101, 120, 116]]]]]],
  .tup [.int 1, .tup [.tup [.str [114, 97, 110, 107], .int 0, .tup [.lst [.str [110, 111, 110, 101]], .tup [.str [110, 117, 109, 98, 101, 114]], .tup [.str [116, 101, 120, 116]]]]]],
  .tup [.int 1, .tup [.tup [.str [114, 97, 110, 107], .int 0, .tup [.tup [.str [110, 111, 110, 101], .str [110, 111, 110, 101]], .tup [.str [110, 117, 109, 98, 101, 114]], .tup [.str [116, 101, 120, 116]]]]]],
  .tup [.int 1, .tup [.tup [.str [114, 97, 110, 107], .int 0, .tup [.tup [.str [110, 105, 108]], .tup [.str [110, 117, 109, 98, 101, 114]], .tup [.str [116, 101, 120, 116]]]]]],
  .tup [.int 1, .tup [.tup [.str [114, 97, 110, 107], .int 0, .tup [.tup [.non], .tup [.str [110, 117, 109, 98, 101, 114]], .tup [.str [116, 101, 120, 116]]]]]],
  .tup [.int 1, .tup [.tup [.non, .int 0, .str [97, 115, 99]]]],
  .tup [.int 1, .tup [.tup [.str [110, 117, 109, 98, 101, 114], .non, .str [97, 115, 99]]]]]
theorem inv_eq (a : O) : call FT 19 F_law_invalid [] [a] = .ok (.d (.lst badL)) [a] := by kernel_rfl
theorem badL_no : ∀ x ∈ badL, NoSpec x := by
  intro x hx
  simp only [badL, List.mem_cons, List.not_mem_nil, or_false] at hx
  rcases hx with rfl | rfl | rfl | rfl | rfl | rfl | rfl | rfl | rfl | rfl | rfl | rfl | rfl | rfl | rfl | rfl | rfl | rfl | rfl | rfl | rfl | rfl | rfl | rfl | rfl | rfl | rfl | rfl | rfl | rfl | rfl | rfl | rfl | rfl | rfl | rfl | rfl | rfl | rfl <;> (refine fun k => small_mem ?_ ?_ ?_ ?_ ?_ <;> intros <;> kernel_rfl)
section
variable {M : Mem} {k : Nat}
theorem ask_x {what : Int} {a b c : W} {e : Nat} {j : Int} (he : nineX.contains e = true) (hj : (e : Int) - 1 = j)
    (h : (what = 0 ∧ call FT k F_compare [a, b, c] M = .exc e M) ∨ (what = 1 ∧ call FT k F_combined [a, b] M = .exc e M) ∨ (what = 2 ∧ call FT k F_reversed_spec [a] M = .exc e M)) :
    call FT (k + 1) F_law_ask [.d (.int what), a, b, c] M = .ok (.d (rsd j)) M := by
  subst hj
  rw [call_fn (fn := fn_law_ask) rfl rfl, show fn_law_ask.body = [.tryW nineX [.iff (.op .eq (.v 0) (.c (.int 0))) [.ret (.call F_compare [(.v 1), (.v 2), (.v 3)])] [], .ret (.ife (.op .eq (.v 0) (.c (.int 1))) (.call F_combined [(.v 1), (.v 2)]) (.call F_reversed_spec [(.v 1)]))]] from rfl]
  rcases h with ⟨rfl, h⟩ | ⟨rfl, h⟩ | ⟨rfl, h⟩ <;> simp [fn_law_ask, entry, x_try, h, try_exc he]
theorem ask_ok {what : Int} {a b c : W} {d : D} 
    (h : (what = 0 ∧ call FT k F_compare [a, b, c] M = .ok (.d d) M) ∨ (what = 1 ∧ call FT k F_combined [a, b] M = .ok (.d d) M) ∨ (what = 2 ∧ call FT k F_reversed_spec [a] M = .ok (.d d) M)) :
    call FT (k + 1) F_law_ask [.d (.int what), a, b, c] M = .ok (.d d) M := by
  rw [call_fn (fn := fn_law_ask) rfl rfl, show fn_law_ask.body = [.tryW nineX [.iff (.op .eq (.v 0) (.c (.int 0))) [.ret (.call F_compare [(.v 1), (.v 2), (.v 3)])] [], .ret (.ife (.op .eq (.v 0) (.c (.int 1))) (.call F_combined [(.v 1), (.v 2)]) (.call F_reversed_spec [(.v 1)]))]] from rfl]
  rcases h with ⟨rfl, h⟩ | ⟨rfl, h⟩ | ⟨rfl, h⟩ <;> simp [fn_law_ask, entry, x_try, h, try_ret]
/-! records -/
theorem norec_of {w : Nat} {x : D} (h : (∃ ds, x = .tup ds ∧ ds.length ≠ w) ∨ x.isTup = false ∧ isSome' x = true) : NoRec w x := by
  intro k M hM
  rw [call_fn (fn := fn_is_record) rfl rfl]
  rcases h with ⟨ds, rfl, hl⟩ | ⟨h, h2⟩
  · have : ¬ ((ds.length : Int) = (w : Int)) := by omega
    simp [fn_is_record, b_is_record, entry, hl, this]
  · have e : biD .isTup [x] = some (.bl false) := by simp only [biD, h2, if_true, h]
    simp [fn_is_record, b_is_record, entry, e]
/-- a first value that is none -/
def NoVal (v : D) : Prop := ∀ (k : Nat) (M : Mem), M.length ≤ 4 → call FT (k + 1) F_kind_of [.d v] M = .ok (.d (.str [])) M
theorem norec_val {w : Nat} {v : D} {r : List Vl} (hv : NoVal v) (hr : ∀ u ∈ r, u.ok) (hl : r.length + 1 = w) (hl2 : w ≤ 2) : NoRec w (.tup (v :: r.map Vl.d)) := by
  intro k M hM
  have e0 : neD (.str []) (.str []) = some (.bl false) := by rfl
  rw [call_fn (fn := fn_is_record) rfl rfl]
  match r, hr, hl with
  | [], _, hl =>
    subst hl
    simp [fn_is_record, b_is_record, entry, compAll, compLoop, line, hv (k + 1) M hM, boolsOf, e0]
  | [u], hr, hl =>
    subst hl
    simp [fn_is_record, b_is_record, entry, compAll, compLoop, line, hv (k + 1) M hM, c_kind_of u (hr u (by simp)), kd_ne, boolsOf, e0]
  | _ :: _ :: _, _, hl => simp at hl; omega
def vals2 : List D := [.int (-1), .int 1000000000, .bl true, .str [], .str [65], .str [97, 97, 97, 97, 97, 97, 97, 97, 97, 97, 97, 97, 97], .str [97, 49], .lst [.int 1], .tup [.int 1], .tup []]
theorem vals2_no : ∀ v ∈ vals2, NoVal v := by
  intro v hv
  simp only [vals2, List.mem_cons, List.not_mem_nil, or_false] at hv
  rcases hv with rfl | rfl | rfl | rfl | rfl | rfl | rfl | rfl | rfl | rfl <;> (refine fun k => small_mem ?_ ?_ ?_ ?_ ?_ <;> intros <;> kernel_rfl)
end
end G

set_option Elab.async false
set_option linter.all false
set_option autoImplicit false
set_option maxRecDepth 100000
set_option maxHeartbeats 400000
/-! The law k02. -/
namespace G
abbrev s2 (ns : List Int) (w : Nat) (ss : List Stp) (r : List Vl) (x5 x6 x7 x8 x9 : Option W) : Sl := [some (scr ns), some (.r 0), some (.d (.int w)), some (.d (specD w ss)), some (.d (recD r)), x5, x6, x7, x8, x9]
def l2B1 : List Sm := [.iff (.or [(.op .isnot (.call F_is_spec [(.v 5)]) (.c (.bl false))), (.op .ne (.call F_law_ask [(.c (.int 0)), (.v 5), (.c (.non)), (.c (.non))]) (.tup [(.c (.str [114, 97, 105, 115, 101, 100])), (.c (.int 0))]))]) [.ret (.c (.bl false))] [],
      .iff (.op .ne (.call F_law_ask [(.c (.int 2)), (.v 5), (.c (.non)), (.c (.non))]) (.tup [(.c (.str [114, 97, 105, 115, 101, 100])), (.c (.int 0))])) [.ret (.c (.bl false))] [],
      .iff (.or [(.op .ne (.call F_law_ask [(.c (.int 1)), (.v 5), (.c (.non)), (.c (.non))]) (.tup [(.c (.str [114, 97, 105, 115, 101, 100])), (.c (.int 0))])), (.op .ne (.call F_law_ask [(.c (.int 1)), (.v 3), (.v 5), (.c (.non))]) (.tup [(.c (.str [114, 97, 105, 115, 101, 100])), (.c (.int 0))]))]) [.ret (.c (.bl false))] []]
def l2B2 : List Sm := [.asg (.nm 5) (.op .add (.tup [(.v 8)]) (.slice (.v 4) (some (.c (.int 1))) none)),
      .iff (.op .ne (.call F_law_ask [(.c (.int 0)), (.v 3), (.v 5), (.c (.non))]) (.tup [(.c (.str [114, 97, 105, 115, 101, 100])), (.c (.int 1))])) [.ret (.c (.bl false))] [],
      .iff (.op .ne (.call F_law_ask [(.c (.int 0)), (.v 3), (.v 4), (.v 5)]) (.tup [(.c (.str [114, 97, 105, 115, 101, 100])), (.c (.int 1))])) [.ret (.c (.bl false))] []]
def l2B3 : List Sm := [.iff (.op .ne (.call F_law_ask [(.c (.int 0)), (.v 3), (.v 5), (.v 4)]) (.tup [(.c (.str [114, 97, 105, 115, 101, 100])), (.c (.int 1))])) [.ret (.c (.bl false))] [],
      .iff (.op .ne (.call F_law_ask [(.c (.int 0)), (.v 3), (.v 4), (.v 5)]) (.tup [(.c (.str [114, 97, 105, 115, 101, 100])), (.c (.int 1))])) [.ret (.c (.bl false))] []]
section
variable {ns : List Int} {w : Nat} {ss : List Stp} {r : List Vl} {tw : O}
theorem l2_loop1 (hs : SpecOk w ss) : ∃ x5, forLoop (fun _ => true) (fun x σ => bindT (.nm 5) x σ) (evSs (call FT 19) l2B1) badL (s2 ns w ss r none none none none none) [tw] = .nx (s2 ns w ss r x5 none none none none) [tw] := by
  obtain ⟨σ', M', h, hM, x5, rfl⟩ := for_inv (chk := fun _ => true) (bind := fun x σ => bindT (.nm 5) x σ) (body := evSs (call FT 19) l2B1) (fun σ M => M = [tw] ∧ ∃ x5, σ = s2 ns w ss r x5 none none none none) badL (s2 ns w ss r none none none none none) [tw] (fun _ _ _ => rfl)
    (fun x hx σ M ⟨hM, x5, hσ⟩ => by
      subst hM hσ
      refine ⟨_, by simp; rfl, s2 ns w ss r (some (.d x)) none none none none, [tw], ?_, rfl, _, rfl⟩
      have no := badL_no x hx
      have f1 := no 15 [tw] (by simp)
      have f2 : call FT 19 F_law_ask [.d (.int 0), .d x, .d .non, .d .non] [tw] = .ok (.d (rsd 0)) [tw] := ask_x (k := 18) (e := X_InvalidSpec) (by decide) (by decide) (.inl ⟨rfl, c_compare_x (k := 12) no (by simp) _ _⟩)
      have f3 : call FT 19 F_law_ask [.d (.int 2), .d x, .d .non, .d .non] [tw] = .ok (.d (rsd 0)) [tw] := ask_x (k := 18) (e := X_InvalidSpec) (by decide) (by decide) (.inr (.inr ⟨rfl, c_reversed_x (k := 12) no (by simp)⟩))
      have f4 : call FT 19 F_law_ask [.d (.int 1), .d x, .d .non, .d .non] [tw] = .ok (.d (rsd 0)) [tw] := ask_x (k := 18) (e := X_InvalidSpec) (by decide) (by decide) (.inr (.inl ⟨rfl, c_comb_x (k := 11) no (by simp) _⟩))
      have f5 : call FT 19 F_law_ask [.d (.int 1), .d (specD w ss), .d x, .d .non] [tw] = .ok (.d (rsd 0)) [tw] := ask_x (k := 18) (e := X_InvalidSpec) (by decide) (by decide) (.inr (.inl ⟨rfl, c_comb_b (k := 11) hs no (by simp)⟩))
      have n0 := rsd_ne 0
      simp only [Nat.reduceAdd] at f1
      simp [l2B1, f1, f2, f3, f4, f5, n0]) ⟨rfl, _, rfl⟩
  subst hM
  exact ⟨x5, h⟩
theorem l2_loop2 (hs : SpecOk w ss) (hr : RecOk w r) {y5 x6 x7 : Option W} : ∃ x5 x8, forLoop (fun _ => true) (fun x σ => bindT (.nm 8) x σ) (evSs (call FT 19) l2B2) vals2 (s2 ns w ss r y5 x6 x7 none none) [tw] = .nx (s2 ns w ss r x5 x6 x7 x8 none) [tw] := by
  obtain ⟨σ', M', h, hM, x5, x8, rfl⟩ := for_inv (chk := fun _ => true) (bind := fun x σ => bindT (.nm 8) x σ) (body := evSs (call FT 19) l2B2) (fun σ M => M = [tw] ∧ ∃ x5 x8, σ = s2 ns w ss r x5 x6 x7 x8 none) vals2 (s2 ns w ss r y5 x6 x7 none none) [tw] (fun _ _ _ => rfl)
    (fun x hx σ M ⟨hM, x5, x8, hσ⟩ => by
      subst hM hσ
      have hw : w ≤ 2 := by rcases hs.1 with h | h <;> omega
      have hl := hr.1
      obtain ⟨u, r', rfl⟩ : ∃ u r', r = u :: r' := by
        cases r with
        | nil => rcases hs.1 with h | h <;> simp at hl <;> omega
        | cons u r' => exact ⟨u, r', rfl⟩
      have nr : NoRec w (.tup (x :: r'.map Vl.d)) := norec_val (vals2_no x hx) (fun v hv => hr.2 v (by simp [hv])) (by simpa using hl) hw
      refine ⟨_, by simp; rfl, s2 ns w ss (u :: r') (some (.d (.tup (x :: r'.map Vl.d)))) x6 x7 (some (.d x)) none, [tw], ?_, rfl, _, _, rfl⟩
      have f1 : call FT 19 F_law_ask [.d (.int 0), .d (specD w ss), .d (.tup (x :: r'.map Vl.d)), .d .non] [tw] = .ok (.d (rsd 1)) [tw] := ask_x (k := 18) (e := X_InvalidRecord) (by decide) (by decide) (.inl ⟨rfl, c_compare_a (k := 12) hs nr (by simp) _⟩)
      have f2 : call FT 19 F_law_ask [.d (.int 0), .d (specD w ss), .d (recD (u :: r')), .d (.tup (x :: r'.map Vl.d))] [tw] = .ok (.d (rsd 1)) [tw] := ask_x (k := 18) (e := X_InvalidRecord) (by decide) (by decide) (.inl ⟨rfl, c_compare_b (k := 12) hs hr nr (by simp)⟩)
      have n1 := rsd_ne 1
      have cu : cutD (some 1) none (recD (u :: r')) = some (.tup (r'.map Vl.d)) := by
        simp only [recD, cutD, Option.some.injEq, D.tup.injEq]
        simp [cut, sIx]
        exact List.take_of_length_le (by simp)
      have ad : addD (.tup [x]) (.tup (r'.map Vl.d)) = some (.tup (x :: r'.map Vl.d)) := by
        have hl2 : r'.length ≤ 1 := by simp at hl; omega
        rw [add_tt (by simp; unfold line; omega)]; rfl
      simp [l2B2, cu, ad, f1, f2, n1]) ⟨rfl, _, _, rfl⟩
  subst hM
  exact ⟨x5, x8, h⟩
def vals3 (r : List Vl) : List D := [.non, .lst [recD r], .lst (r.map Vl.d), .tup (r.map Vl.d ++ [.non]), .tup (r.map Vl.d).tail, .int 5, .str [97]]
theorem l2_loop3 (hs : SpecOk w ss) (hr : RecOk w r) {y5 x6 x7 x8 : Option W} : ∃ x5, forLoop (fun _ => true) (fun x σ => bindT (.nm 5) x σ) (evSs (call FT 19) l2B3) (vals3 r) (s2 ns w ss r y5 x6 x7 x8 none) [tw] = .nx (s2 ns w ss r x5 x6 x7 x8 none) [tw] := by
  obtain ⟨σ', M', h, hM, x5, rfl⟩ := for_inv (chk := fun _ => true) (bind := fun x σ => bindT (.nm 5) x σ) (body := evSs (call FT 19) l2B3) (fun σ M => M = [tw] ∧ ∃ x5, σ = s2 ns w ss r x5 x6 x7 x8 none) (vals3 r) (s2 ns w ss r y5 x6 x7 x8 none) [tw] (fun _ _ _ => rfl)
    (fun x hx σ M ⟨hM, x5, hσ⟩ => by
      subst hM hσ
      have hl := hr.1
      have hw : 1 ≤ w := by rcases hs.1 with h | h <;> omega
      have nr : NoRec w x := by
        refine norec_of ?_
        simp only [vals3, List.mem_cons, List.not_mem_nil, or_false] at hx
        rcases hx with rfl | rfl | rfl | rfl | rfl | rfl | rfl
        · exact .inr ⟨rfl, rfl⟩
        · exact .inr ⟨rfl, rfl⟩
        · exact .inr ⟨rfl, rfl⟩
        · exact .inl ⟨_, rfl, by simp; omega⟩
        · exact .inl ⟨_, rfl, by simp; omega⟩
        · exact .inr ⟨rfl, rfl⟩
        · exact .inr ⟨rfl, rfl⟩
      refine ⟨_, by simp; rfl, s2 ns w ss r (some (.d x)) x6 x7 x8 none, [tw], ?_, rfl, _, rfl⟩
      have f1 : call FT 19 F_law_ask [.d (.int 0), .d (specD w ss), .d x, .d (recD r)] [tw] = .ok (.d (rsd 1)) [tw] := ask_x (k := 18) (e := X_InvalidRecord) (by decide) (by decide) (.inl ⟨rfl, c_compare_a (k := 12) hs nr (by simp) _⟩)
      have f2 : call FT 19 F_law_ask [.d (.int 0), .d (specD w ss), .d (recD r), .d x] [tw] = .ok (.d (rsd 1)) [tw] := ask_x (k := 18) (e := X_InvalidRecord) (by decide) (by decide) (.inl ⟨rfl, c_compare_b (k := 12) hs hr nr (by simp)⟩)
      have n1 := rsd_ne 1
      simp [l2B3, f1, f2, n1]) ⟨rfl, _, rfl⟩
  subst hM
  exact ⟨x5, h⟩

theorem seq_nx {Γ : Nat → List W → Mem → R W} {st : Sm} {R : List Sm} {σ σ' : Sl} {M M' : Mem} (h : evS Γ st σ M = .nx σ' M') : evSs Γ (st :: R) σ M = evSs Γ R σ' M' := by rw [x_ss, h, then_nx]
theorem rep_steps (n : Nat) : (List.replicate n [Stp.d (.dir .number 0 false)]).flatten = (List.replicate n (Stp.dir .number 0 false)).map Stp.d := by
  induction n with
  | zero => rfl
  | succ n ih => simp only [List.replicate_succ, List.flatten_cons, List.map_cons, ih]; rfl
theorem num_specOk {w n : Nat} (hw : w = 1 ∨ w = 2) (hn : n ≤ 6) : SpecOk w (List.replicate n (Stp.dir .number 0 false)) := by
  refine ⟨hw, by simpa using hn, fun s hs => ?_⟩
  obtain ⟨_, rfl⟩ := List.mem_replicate.mp hs
  show 0 < w
  omega
theorem k02_f6 (tw : O) : call FT 19 F_is_spec [.d (.tup [.int 2, .tup [.tup [.str [114, 97, 110, 107], .int 1, .tup [.tup [.str [110, 111, 110, 101], .str [110, 117, 109, 98, 101, 114], .str [116, 101, 120, 116]]]], .tup [.str [114, 97, 110, 107], .int 1, .tup [.tup [.str [110, 111, 110, 101], .str [110, 117, 109, 98, 101, 114], .str [116, 101, 120, 116]]]], .tup [.str [114, 97, 110, 107], .int 1, .tup [.tup [.str [110, 111, 110, 101], .str [110, 117, 109, 98, 101, 114], .str [116, 101, 120, 116]]]], .tup [.str [114, 97, 110, 107], .int 1, .tup [.tup [.str [110, 111, 110, 101], .str [110, 117, 109, 98, 101, 114], .str [116, 101, 120, 116]]]], .tup [.str [114, 97, 110, 107], .int 1, .tup [.tup [.str [110, 111, 110, 101], .str [110, 117, 109, 98, 101, 114], .str [116, 101, 120, 116]]]], .tup [.str [114, 97, 110, 107], .int 1, .tup [.tup [.str [110, 111, 110, 101], .str [110, 117, 109, 98, 101, 114], .str [116, 101, 120, 116]]]]]])] [tw] = .ok (.d (.bl true)) [tw] := by kernel_rfl
theorem k02_m6 : mulD (.tup [.tup [.str [114, 97, 110, 107], .int 1, .tup [.tup [.str [110, 111, 110, 101], .str [110, 117, 109, 98, 101, 114], .str [116, 101, 120, 116]]]]]) (.int 6) = some (.tup [.tup [.str [114, 97, 110, 107], .int 1, .tup [.tup [.str [110, 111, 110, 101], .str [110, 117, 109, 98, 101, 114], .str [116, 101, 120, 116]]]], .tup [.str [114, 97, 110, 107], .int 1, .tup [.tup [.str [110, 111, 110, 101], .str [110, 117, 109, 98, 101, 114], .str [116, 101, 120, 116]]]], .tup [.str [114, 97, 110, 107], .int 1, .tup [.tup [.str [110, 111, 110, 101], .str [110, 117, 109, 98, 101, 114], .str [116, 101, 120, 116]]]], .tup [.str [114, 97, 110, 107], .int 1, .tup [.tup [.str [110, 111, 110, 101], .str [110, 117, 109, 98, 101, 114], .str [116, 101, 120, 116]]]], .tup [.str [114, 97, 110, 107], .int 1, .tup [.tup [.str [110, 111, 110, 101], .str [110, 117, 109, 98, 101, 114], .str [116, 101, 120, 116]]]], .tup [.str [114, 97, 110, 107], .int 1, .tup [.tup [.str [110, 111, 110, 101], .str [110, 117, 109, 98, 101, 114], .str [116, 101, 120, 116]]]]]) := by kernel_rfl
theorem law_k02 : ∀ ns : List Int, ns.length ≤ 63 → ∃ M, call FT 20 F_law_k02 [.d (.frz (ns.map .int))] [] = .ok (.d (.bl true)) M := by
  intro ns _
  rw [call_fn (fn := fn_law_k02) rfl rfl, show fn_law_k02.body = b_law_k02 from rfl, show entry fn_law_k02 [.d (.frz (ns.map .int))] = [some (scr ns), none, none, none, none, none, none, none, none, none] from rfl]
  have hT : Town 0 [O.lst [.int 0, .int 0]] := ⟨0, 0, rfl, by decide, by decide⟩
  obtain ⟨v, M1, e1, a1, v0, v1⟩ := c_draw (k := 18) (ns := ns) hT (m := 2) (by decide) (by decide)
  have T1 := a1.town hT.lt
  obtain ⟨w, hw, hwv⟩ : ∃ w : Nat, (w = 1 ∨ w = 2) ∧ (1 + v : Int) = (w : Int) := ⟨(1 + v).toNat, by omega, by omega⟩
  obtain ⟨ss, M2, hs, _, e2, a2⟩ := c_lspec (k := 15) (ns := ns) T1 w hw 6 (by decide)
  have T2 := a2.town T1.lt
  obtain ⟨r, M3, hr, e3, a3⟩ := c_lrecord (k := 15) (ns := ns) T2 w hw
  obtain ⟨t1, rfl⟩ : ∃ t, M1 = [t] := by obtain ⟨a, r, e, _⟩ := a1; exact ⟨_, e⟩
  obtain ⟨t2, rfl⟩ : ∃ t, M2 = [t] := by obtain ⟨a, r, e, _⟩ := a2; exact ⟨_, e⟩
  obtain ⟨tw, rfl⟩ : ∃ t, M3 = [t] := by obtain ⟨a, r, e, _⟩ := a3; exact ⟨_, e⟩
  simp only [Nat.reduceAdd] at e1 e2 e3
  have inv := inv_eq tw
  obtain ⟨y1, l1⟩ := l2_loop1 (ns := ns) (r := r) (tw := tw) hs
  -- widths that differ
  obtain ⟨w', hw', h3, hne⟩ : ∃ w' : Nat, (w' = 1 ∨ w' = 2) ∧ (3 - w : Int) = (w' : Int) ∧ w ≠ w' := ⟨3 - w, by omega, by omega, by omega⟩
  have s0 : SpecOk w' [] := ⟨hw', by simp, by simp⟩
  have d0 : (D.tup [.int w', .tup []]) = specD w' [] := rfl
  have f1 : call FT 19 F_law_ask [.d (.int 1), .d (specD w ss), .d (specD w' []), .d .non] [tw] = .ok (.d (rsd 3)) [tw] := ask_x (k := 18) (e := X_Incomparable) (by decide) (by decide) (.inr (.inl ⟨rfl, c_comb_w (k := 11) hs s0 hne⟩))
  have f2 : call FT 19 F_law_ask [.d (.int 1), .d (specD w' []), .d (specD w ss), .d .non] [tw] = .ok (.d (rsd 3)) [tw] := ask_x (k := 18) (e := X_Incomparable) (by decide) (by decide) (.inr (.inl ⟨rfl, c_comb_w (k := 11) s0 hs (Ne.symm hne)⟩))
  rw [← d0] at f1 f2
  -- too long
  have hl6 := hs.2.1
  obtain ⟨n, hn⟩ : ∃ n : Nat, n = 7 - ss.length := ⟨_, rfl⟩
  have hn7 : (7 - ss.length : Int) = (n : Int) := by omega
  have mu : mulD (.tup [.tup [.str [110, 117, 109, 98, 101, 114], .int 0, .str [97, 115, 99]]]) (.int n) = some (stepsD (List.replicate n (Stp.dir .number 0 false))) := by
    have h0 : (0 : Int) ≤ (n : Int) ∧ (n : Int) ≤ 1000 := by omega
    simp only [mulD, h0.1, h0.2, List.length_singleton, List.isEmpty_cons, true_and, and_true]
    rw [if_pos (by decide)]
    show some (D.tup (List.replicate ((n : Int).toNat) [Stp.d (.dir .number 0 false)]).flatten) = _
    rw [Int.toNat_natCast, rep_steps]; rfl
  have ln : biD .len [stepsD (List.replicate n (Stp.dir .number 0 false))] = some (.int n) := by rw [steps_len]; simp
  have dR : (D.tup [.int w, stepsD (List.replicate n (Stp.dir .number 0 false))]) = specD w (List.replicate n (Stp.dir .number 0 false)) := rfl
  have iR : ixD (.tup [.int w, stepsD (List.replicate n (Stp.dir .number 0 false))]) (.int 1) = some (stepsD (List.replicate n (Stp.dir .number 0 false))) := rfl
  have f3 : n < 7 → call FT 19 F_law_ask [.d (.int 1), .d (specD w ss), .d (specD w (List.replicate n (Stp.dir .number 0 false))), .d .non] [tw] = .ok (.d (rsd 4)) [tw] := fun h =>
    ask_x (k := 18) (e := X_TooLong) (by decide) (by decide) (.inr (.inl ⟨rfl, c_comb_l (k := 12) hs (num_specOk hw (by omega)) (by simp; omega)⟩))
  rw [← dR] at f3
  have cu : cutD (some 1) none (stepsD (List.replicate n (Stp.dir .number 0 false))) = some (stepsD (List.replicate (n - 1) (Stp.dir .number 0 false))) := by
    obtain ⟨m, rfl⟩ : ∃ m, n = m + 1 := ⟨n - 1, by omega⟩
    simp only [stepsD, cutD, Option.some.injEq, D.tup.injEq]
    simp [cut, sIx, List.replicate_succ]
  have hm : ss.length + (n - 1) = 6 := by omega
  have f4 : call FT 19 F_law_ask [.d (.int 1), .d (specD w ss), .d (specD w (List.replicate (n - 1) (Stp.dir .number 0 false))), .d .non] [tw] = .ok (.d (specD w (ss ++ List.replicate (n - 1) (Stp.dir .number 0 false)))) [tw] :=
    ask_ok (k := 18) (.inr (.inl ⟨rfl, c_combined (k := 12) w ss _ hs (num_specOk hw (by omega)) (by simp; omega)⟩))
  rw [show specD w (List.replicate (n - 1) (Stp.dir .number 0 false)) = .tup [.int w, stepsD (List.replicate (n - 1) (Stp.dir .number 0 false))] from rfl] at f4
  have l4 : biD .len [stepsD (ss ++ List.replicate (n - 1) (Stp.dir .number 0 false))] = some (.int 6) := by
    rw [steps_len]; simp only [List.length_append, List.length_replicate, hm]; rfl
  -- invalid records
  obtain ⟨y2, y3, l2⟩ := l2_loop2 (ns := ns) (tw := tw) (y5 := y1) (x6 := some (.d (.tup [.int w', .tup []]))) (x7 := some (.d (.tup [.int w, stepsD (List.replicate n (Stp.dir .number 0 false))]))) hs hr
  obtain ⟨y4, l3⟩ := l2_loop3 (ns := ns) (tw := tw) (y5 := y2) (x6 := some (.d (.tup [.int w', .tup []]))) (x7 := some (.d (.tup [.int w, stepsD (List.replicate n (Stp.dir .number 0 false))]))) (x8 := y3) hs hr
  have rl := hr.1
  have c3 : cutD (some 1) none (recD r) = some (.tup (r.map Vl.d).tail) := by
    obtain ⟨u, r', rfl⟩ : ∃ u r', r = u :: r' := by
      cases r with
      | nil => simp at rl; omega
      | cons u r' => exact ⟨u, r', rfl⟩
    simp only [recD, cutD, Option.some.injEq, D.tup.injEq]
    simp [cut, sIx]
    exact List.take_of_length_le (by simp)
  have a3 : addD (recD r) (.tup [.non]) = some (.tup (r.map Vl.d ++ [.non])) := by
    rw [recD, add_tt (by simp; unfold line; omega)]
  have m13 : mulD (.str [97]) (.int 13) = some (.str [97, 97, 97, 97, 97, 97, 97, 97, 97, 97, 97, 97, 97]) := by kernel_rfl
  -- large values
  obtain ⟨lg, hlg, el⟩ : ∃ lg : List Vl, RecOk w lg ∧ ∃ x, mulD (.tup [.str [97, 98, 99, 100, 101, 102, 103, 104, 105, 106, 107, 108]]) (.int (w - 1)) = some x ∧ addD (.tup [.int 999999999]) x = some (recD lg) := by
    rcases hw with rfl | rfl
    · exact ⟨[.num 999999999], ⟨rfl, fun v hv => by simp at hv; subst hv; exact Nat.le_refl _⟩, _, rfl, rfl⟩
    · refine ⟨[.num 999999999, .txt [97, 98, 99, 100, 101, 102, 103, 104, 105, 106, 107, 108]], ⟨rfl, fun v hv => ?_⟩, _, rfl, rfl⟩
      simp only [List.mem_cons, List.not_mem_nil, or_false] at hv
      rcases hv with rfl | rfl
      · exact Nat.le_refl _
      · exact ⟨by decide, by decide, by decide⟩
  obtain ⟨xl, el1, el2⟩ := el
  have f5 : call FT 19 F_law_ask [.d (.int 0), .d (specD w ss), .d (recD lg), .d (recD lg)] [tw] = .ok (.d (.int 0)) [tw] := by
    have := c_compare (k := 13) (M := [tw]) w ss hs lg lg hlg hlg
    rw [cmpR_self] at this
    exact ask_ok (k := 18) (.inl ⟨rfl, this⟩)
  have f6 := k02_f6 tw
  have m6 := k02_m6
  have n3 := rsd_ne 3
  have n4 := rsd_ne 4
  have lf : lofW 0 [tw] (recD r) = .ok (.d (.lst (r.map Vl.d))) [tw] := rfl
  have sl1 : still (.d (.lst badL)) (.lst badL) = fun _ => true := by funext M; rfl
  have sl2 : still (.d (.tup vals2)) (.tup vals2) = fun _ => true := by funext M; rfl
  have sl3 : still (.d (.tup (vals3 r))) (.tup (vals3 r)) = fun _ => true := by funext M; rfl
  have hne0 : ¬ ((n : Int) < 7) ∨ n < 7 := by omega
  rw [show b_law_k02 = [.asg (.nm 1) (.lst 1 [(.c (.int 0)), (.c (.int 0))]), .asg (.nm 2) (.op .add (.c (.int 1)) (.call F_law_draw [(.v 0), (.v 1), (.c (.int 2))])),
    .par [3, 4] [(.call F_law_spec [(.v 0), (.v 1), (.v 2), (.c (.int 6))]), (.call F_law_record [(.v 0), (.v 1), (.v 2)])], .for_ (.nm 5) (.seq (.call F_law_invalid [])) l2B1,
    .asg (.nm 6) (.tup [(.op .sub (.c (.int 3)) (.v 2)), (.tup [])]),
    .iff (.or [(.op .ne (.call F_law_ask [(.c (.int 1)), (.v 3), (.v 6), (.c (.non))]) (.tup [(.c (.str [114, 97, 105, 115, 101, 100])), (.c (.int 3))])), (.op .ne (.call F_law_ask [(.c (.int 1)), (.v 6), (.v 3), (.c (.non))]) (.tup [(.c (.str [114, 97, 105, 115, 101, 100])), (.c (.int 3))]))]) [.ret (.c (.bl false))] [],
    .asg (.nm 7) (.tup [(.v 2), (.op .mul (.tup [(.tup [(.c (.str [110, 117, 109, 98, 101, 114])), (.c (.int 0)), (.c (.str [97, 115, 99]))])]) (.op .sub (.c (.int 7)) (.bi .len [(.op .ix (.v 3) (.c (.int 1)))])))]),
    .iff (.and [(.op .lt (.bi .len [(.op .ix (.v 7) (.c (.int 1)))]) (.c (.int 7))), (.op .ne (.call F_law_ask [(.c (.int 1)), (.v 3), (.v 7), (.c (.non))]) (.tup [(.c (.str [114, 97, 105, 115, 101, 100])), (.c (.int 4))]))]) [.ret (.c (.bl false))] [],
    .iff (.op .ne (.bi .len [(.op .ix (.call F_law_ask [(.c (.int 1)), (.v 3), (.tup [(.v 2), (.slice (.op .ix (.v 7) (.c (.int 1))) (some (.c (.int 1))) none)]), (.c (.non))]) (.c (.int 1)))]) (.c (.int 6))) [.ret (.c (.bl false))] [],
    .for_ (.nm 8) (.seq (.tup [(.un .neg (.c (.int 1))), (.c (.int 1000000000)), (.c (.bl true)), (.c (.str [])), (.c (.str [65])), (.op .mul (.c (.str [97])) (.c (.int 13))), (.c (.str [97, 49])), (.lst 0 [(.c (.int 1))]), (.tup [(.c (.int 1))]), (.tup [])])) l2B2,
    .for_ (.nm 5) (.seq (.tup [(.c (.non)), (.lst 0 [(.v 4)]), (.listof 0 (.v 4)), (.op .add (.v 4) (.tup [(.c (.non))])), (.slice (.v 4) (some (.c (.int 1))) none), (.c (.int 5)), (.c (.str [97]))])) l2B3,
    .asg (.nm 9) (.op .add (.tup [(.c (.int 999999999))]) (.op .mul (.tup [(.c (.str [97, 98, 99, 100, 101, 102, 103, 104, 105, 106, 107, 108]))]) (.op .sub (.v 2) (.c (.int 1))))),
    .iff (.op .ne (.call F_law_ask [(.c (.int 0)), (.v 3), (.v 9), (.v 9)]) (.c (.int 0))) [.ret (.c (.bl false))] [],
    .ret (.op .is_ (.call F_is_spec [(.tup [(.c (.int 2)), (.op .mul (.tup [(.tup [(.c (.str [114, 97, 110, 107])), (.c (.int 1)), (.tup [(.tup [(.c (.str [110, 111, 110, 101])), (.c (.str [110, 117, 109, 98, 101, 114])), (.c (.str [116, 101, 120, 116]))])])])]) (.c (.int 6)))])]) (.c (.bl true)))] from rfl]
  rw [seq_nx (σ' := [some (scr ns), some (.r 0), none, none, none, none, none, none, none, none]) (M' := [O.lst [.int 0, .int 0]]) (by simp)]
  rw [seq_nx (σ' := [some (scr ns), some (.r 0), some (.d (.int w)), none, none, none, none, none, none, none]) (M' := [t1]) (by simp [e1, hwv])]
  rw [seq_nx (σ' := s2 ns w ss r none none none none none) (M' := [tw]) (by simp at e2 e3; simp [e2, e3])]
  rw [seq_nx (σ' := s2 ns w ss r y1 none none none none) (M' := [tw]) (by
    simp only [x_for, x_seq, x_call, x_es0, bind_ok, inv, asD_d, ofO_some, it_l, out_ok, sl1]
    exact l1)]
  rw [seq_nx (σ' := s2 ns w ss r y1 (some (.d (.tup [.int w', .tup []]))) none none none) (M' := [tw]) (by simp [h3])]
  rw [seq_nx (σ' := s2 ns w ss r y1 (some (.d (.tup [.int w', .tup []]))) none none none) (M' := [tw]) (by simp [f1, f2, n3])]
  rw [seq_nx (σ' := s2 ns w ss r y1 (some (.d (.tup [.int w', .tup []]))) (some (.d (.tup [.int w, stepsD (List.replicate n (Stp.dir .number 0 false))]))) none none) (M' := [tw]) (by simp [hn7, mu])]
  rw [seq_nx (σ' := s2 ns w ss r y1 (some (.d (.tup [.int w', .tup []]))) (some (.d (.tup [.int w, stepsD (List.replicate n (Stp.dir .number 0 false))]))) none none) (M' := [tw]) (by
    rcases hne0 with h | h
    · simp [ln, h]
    · have h2 : (n : Int) < 7 := by omega
      simp [ln, h, h2, f3 h, n4])]
  rw [seq_nx (σ' := s2 ns w ss r y1 (some (.d (.tup [.int w', .tup []]))) (some (.d (.tup [.int w, stepsD (List.replicate n (Stp.dir .number 0 false))]))) none none) (M' := [tw]) (by simp [cu, f4, l4])]
  rw [seq_nx (σ' := s2 ns w ss r y2 (some (.d (.tup [.int w', .tup []]))) (some (.d (.tup [.int w, stepsD (List.replicate n (Stp.dir .number 0 false))]))) y3 none) (M' := [tw]) (by
    rw [x_for, show evIt (call FT 19) _ _ _ = .ok (vals2, still (.d (.tup vals2)) (.tup vals2)) [tw] from by simp [m13, vals2]]
    rw [out_ok, sl2]
    exact l2)]
  rw [seq_nx (σ' := s2 ns w ss r y4 (some (.d (.tup [.int w', .tup []]))) (some (.d (.tup [.int w, stepsD (List.replicate n (Stp.dir .number 0 false))]))) y3 none) (M' := [tw]) (by
    rw [x_for, show evIt (call FT 19) _ _ _ = .ok (vals3 r, still (.d (.tup (vals3 r))) (.tup (vals3 r))) [tw] from by simp [lf, a3, c3, vals3]]
    rw [out_ok, sl3]
    exact l3)]
  rw [seq_nx (σ' := s2 ns w ss r y4 (some (.d (.tup [.int w', .tup []]))) (some (.d (.tup [.int w, stepsD (List.replicate n (Stp.dir .number 0 false))]))) y3 (some (.d (recD lg)))) (M' := [tw]) (by simp [el1, el2])]
  rw [seq_nx (σ' := s2 ns w ss r y4 (some (.d (.tup [.int w', .tup []]))) (some (.d (.tup [.int w, stepsD (List.replicate n (Stp.dir .number 0 false))]))) y3 (some (.d (recD lg)))) (M' := [tw]) (by simp [f5])]
  exact ⟨[], by simp [m6, f6]⟩
end
end G

set_option Elab.async false
set_option linter.all false
set_option maxRecDepth 100000
set_option maxHeartbeats 0
open PySem PySem.W PySem.Calls PyProof.Rows
theorem PySem.Challenge.cw_sortspec_k02_spec_errors_holds : PySem.Challenge.rw_sortspec_k02_spec_errors.Holds := by
  w_on; o_law
  refine HandSHeadRun.head_any (r := OpenLaw.row PySem.Challenge.rw_sortspec_k02_spec_errors) (q := view (OpenLaw.row PySem.Challenge.rw_sortspec_k02_spec_errors).prog [49]) (H := LK02.hk) (ob := LK02.ob) (M := 6000) (loose := LK02.nms) (d := HandSHeadRun.topDef (OpenLaw.row PySem.Challenge.rw_sortspec_k02_spec_errors).prog 49) (kwd := []) LK02.ob_eq
    (by kernel_rfl) (fun s => by kernel_rfl) LK02.run (by kernel_rfl) (by kernel_rfl) (by kernel_rfl) (by rfl) (by first | assumption | decide +kernel) (by decide +kernel) ⟨rfl, rfl, rfl, rfl, rfl, by decide +kernel⟩ ?hw ?hc
  case hw => w_witness2
  case hc =>
    refine L2.walk_ofE (l := PySem.Challenge.rw_sortspec_k02_spec_errors) (n := 63) (k := 20) (x := "script") (CX := G.CXA PySem.Challenge.pw_sortspec_k02_spec_errors) rfl (by decide) (by kernel_rfl) ⟨rfl, by decide, by decide⟩ ?F (fun H s e s' z => G.cxa_no H s e s' z)
    intro w mg fa h Y Gn hmg0
    obtain ⟨K, KX, x, c⟩ := Y
    have hmg : mg ("law" : PySem.Str) = some (.ref fa) := by
      have e : (HandSHeadRun.topDef (OpenLaw.row PySem.Challenge.rw_sortspec_k02_spec_errors).prog 49).name = ("law" : PySem.Str) := by kernel_rfl
      rw [← e]
      exact hmg0
    exact LK02.fin KX Gn x c hmg G.law_k02
