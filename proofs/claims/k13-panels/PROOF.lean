import PyProof.Rows.All
import PyProof.ReprReads
import PyProof.RangeIter
import Wide.All
import OpenK.AllK
import Wide.FinOn
import HandS.ForMost
import HandS.Wide
import HandS.TupAny
import HandS.TupMul
import HandS.IsInst
import HandS.Conv
import HandS.Flow
import HandS.Style
import HandS.Defaults
import PyProof.ReprRoads
import HandS.RaiseMore
import HandS.SortInts
import HandS.WordsDict
import HandS.TupLen
import HandS.Exc
import HandS.TryOnly
import HandS.Small
import HandS.HeadEnd
import HandS.WordsExc
import HandS.Codes
import KE.GoesEnum
import HandS.Zip
import KE.KRevSl
import HandS.Replace
import HandS.Deep
import HandS.SetBool
import HandS.SetKeys
import HandS.ExcField
import KE.KExcSuper
import KE.KExcInit
import KE.KTryMore
import HandS.HeadWalk
import HandS.ExcInit
import HandS.CallSlots
import HandS.TryMany
import HandS.HeadHook2
import PyProof.ExcBaseAll.ValueError
import PyProof.ExcBaseAll.OverflowError
import PyProof.ExcBaseAll.LookupError
import PyProof.StrLawsRepr
import HandS.Head0
import HandS.Head1
import HandS.Head2
import HandS.HeadHook1
import KE.KStateDown
import PySem.Challenge.RW_labelhouse_k13_whole_panels
set_option Elab.async false
set_option linter.all false
set_option maxRecDepth 100000
set_option maxHeartbeats 0
set_option autoImplicit false
/-! G0: a small language of data, its texts and its evaluator. -/
namespace G

inductive D where
  | non | bl (b : Bool) | int (i : Int) | str (s : List Nat) | tup (xs : List D) | ktup (xs : List D) | rol (xs : List D) | ref (n : Nat)
  deriving Inhabited

/-- objects: a list, a dict with int and text keys, a dict with tuple keys -/
inductive O where
  | lst (xs : List D) | dk (kvs : List (D × D)) | dt (kvs : List (D × D))

/-- what an expression gives: a value, or an object just made that nobody else holds -/
inductive Rv where
  | val (d : D) | new (o : O)

abbrev Hp := List O
abbrev Env := List (Option D)

inductive R (α : Type) where
  | ok (a : α) (h : Hp) | exc (c : Nat) (ds : List D) (h : Hp) | bad

def R.bind {α β : Type} (r : R α) (f : α → Hp → R β) : R β :=
  match r with
  | .ok a h => f a h
  | .exc c ds h => .exc c ds h
  | .bad => .bad

/-- the length of a list at most -/
def lim : Nat := 16777216

mutual
def D.beq : D → D → Bool
  | .non, .non => true
  | .bl a, .bl b => decide (a = b)
  | .int a, .int b => decide (a = b)
  | .str a, .str b => decide (a = b)
  | .tup a, .tup b => D.beqs a b
  | .ktup a, .ktup b => D.beqs a b
  | .rol a, .rol b => D.beqs a b
  | .ref a, .ref b => decide (a = b)
  | _, _ => false
def D.beqs : List D → List D → Bool
  | [], [] => true
  | x :: xs, y :: ys => D.beq x y && D.beqs xs ys
  | _, _ => false
end

mutual
def D.free : D → Bool
  | .tup xs => D.frees xs
  | .ktup xs => D.frees xs
  | .rol xs => D.frees xs
  | .ref _ => false
  | _ => true
def D.frees : List D → Bool
  | [] => true
  | x :: xs => D.free x && D.frees xs
end
def freeKv : List (D × D) → Bool
  | [] => true
  | (k, v) :: r => k.free && v.free && freeKv r
def O.free : O → Bool
  | .lst xs => D.frees xs
  | .dk kvs => freeKv kvs
  | .dt kvs => freeKv kvs
def Rv.free : Rv → Bool
  | .val d => d.free
  | .new o => o.free

/-! ### sequences -/
def lstIn : O → Option (List D)
  | .lst xs => some xs
  | _ => none
def objOf (h : Hp) : Rv → Option O
  | .new o => some o
  | .val (.ref n) => h[n]?
  | _ => none
/-- the items of a list -/
def lstOf (h : Hp) : Rv → Option (List D)
  | .val (.rol xs) => some xs
  | r => (objOf h r).bind lstIn
def chars (s : List Nat) : List D := s.map fun c => .str [c]
/-- what is walked: a list, a tuple, a text, a dict's keys -/
def itemsOf (h : Hp) : Rv → Option (List D)
  | .val (.tup xs) => some xs
  | .val (.ktup xs) => some xs
  | .val (.rol xs) => some xs
  | .val (.str s) => some (chars s)
  | .val (.ref n) => (h[n]?).bind lstIn
  | .new (.lst xs) => some xs
  | _ => none
/-- what list() takes: a list, a tuple, a dict with plain keys -/
def seqV (h : Hp) : Rv → Option (List D)
  | .val (.tup xs) => some xs
  | .val (.ktup xs) => some xs
  | .val (.rol xs) => some xs
  | .val (.str s) => if s.length ≤ lim then some (chars s) else none
  | .val (.ref n) => (h[n]?).bind fun
    | .lst xs => some xs
    | .dk kvs => some (kvs.map (·.1))
    | .dt _ => none
  | .new (.lst xs) => some xs
  | _ => none
def lenOf (h : Hp) : Rv → Option Nat
  | .val (.tup xs) => some xs.length
  | .val (.ktup xs) => some xs.length
  | .val (.rol xs) => some xs.length
  | .val (.str s) => some s.length
  | .val (.ref n) => (h[n]?).bind fun
    | .lst xs => some xs.length
    | .dk kvs => some kvs.length
    | .dt kvs => some kvs.length
  | .new (.lst xs) => some xs.length
  | .new (.dk kvs) => some kvs.length
  | .new (.dt kvs) => some kvs.length
  | _ => none
def ixN (n : Nat) (i : Int) : Option Nat := if 0 ≤ i then (if i < n then some i.toNat else none) else if -(n : Int) ≤ i then some (i + n).toNat else none
def atI {α : Type} (xs : List α) (i : Int) : Option α := (ixN xs.length i).bind fun j => xs[j]?
/-- where a slice begins or ends -/
def sIx (n d : Nat) : Option Int → Nat
  | none => d
  | some i => if i < 0 then (i + (n : Int)).toNat else min i.toNat n
def cut {α : Type} (xs : List α) (lo hi : Option Int) : List α := (xs.drop (sIx xs.length 0 lo)).take (sIx xs.length xs.length hi - sIx xs.length 0 lo)

/-! ### equality of values, as Python's == -/
def dok (h : Hp) : Nat → D → Bool
  | 0, _ => false
  | n + 1, .tup xs => xs.all (dok h n)
  | n + 1, .ktup xs => xs.all (dok h n)
  | n + 1, .rol xs => xs.all (dok h n)
  | n + 1, .ref k => match (h[k]?).bind lstIn with
    | some xs => xs.all (dok h n)
    | none => false
  | _ + 1, .str s => s.all fun c => decide (c < 55296)
  | _ + 1, _ => true
/-- a text by its codes -/
def tx (s : List Nat) : PySem.Str := ⟨s.toArray⟩
/-- a value as the library's data -/
def toP (h : Hp) : Nat → D → PySem.PyData
  | 0, _ => .none
  | _ + 1, .non => .none
  | _ + 1, .bl b => .bool b
  | _ + 1, .int i => .int i
  | _ + 1, .str s => .str (tx s)
  | n + 1, .tup xs => .tuple (xs.map (toP h n))
  | n + 1, .ktup xs => .tuple (xs.map (toP h n))
  | n + 1, .rol xs => .list (xs.map (toP h n))
  | n + 1, .ref k => match (h[k]?).bind lstIn with
    | some xs => .list (xs.map (toP h n))
    | none => .none
def all2 (f : D → D → Bool) : List D → List D → Bool
  | [], [] => true
  | x :: xs, y :: ys => f x y && all2 f xs ys
  | _, _ => false
def deq (h : Hp) : Nat → D → D → Bool
  | 0, _, _ => false
  | _ + 1, .non, .non => true
  | _ + 1, .bl a, .bl b => decide (a = b)
  | _ + 1, .bl a, .int j => decide ((if a then (1 : Int) else 0) = j)
  | _ + 1, .int i, .bl b => decide (i = (if b then (1 : Int) else 0))
  | _ + 1, .int i, .int j => decide (i = j)
  | _ + 1, .str a, .str b => decide (a = b)
  | n + 1, .tup a, .tup b => all2 (deq h n) a b
  | n + 1, .ktup a, .ktup b => all2 (deq h n) a b
  | n + 1, .tup a, .ktup b => all2 (deq h n) a b
  | n + 1, .ktup a, .tup b => all2 (deq h n) a b
  | n + 1, .rol a, .rol b => all2 (deq h n) a b
  | n + 1, .rol a, .ref b => match (h[b]?).bind lstIn with
    | some ys => all2 (deq h n) a ys
    | none => false
  | n + 1, .ref a, .rol b => match (h[a]?).bind lstIn with
    | some xs => all2 (deq h n) xs b
    | none => false
  | n + 1, .ref a, .ref b => match (h[a]?).bind lstIn, (h[b]?).bind lstIn with
    | some xs, some ys => all2 (deq h n) xs ys
    | _, _ => false
  | _ + 1, _, _ => false
/-- the values of both, lists that were just made laid at the heap's end -/
def eqV (h : Hp) (x y : Rv) : Option Bool :=
  match x, y with
  | .val (.int i), .val (.int j) => some (decide (i = j))
  | .val (.str a), .val (.str b) => some (decide (a = b))
  | .val d, .val e => if dok h 60 d && dok h 60 e then some (deq h 60 d e) else none
  | .val d, .new o => let h' := h ++ [o]; if dok h' 60 d && dok h' 60 (.ref h.length) then some (deq h' 60 d (.ref h.length)) else none
  | .new o, .val e => let h' := h ++ [o]; if dok h' 60 (.ref h.length) && dok h' 60 e then some (deq h' 60 (.ref h.length) e) else none
  | .new o, .new p => let h' := h ++ [o, p]; if dok h' 60 (.ref h.length) && dok h' 60 (.ref (h.length + 1)) then some (deq h' 60 (.ref h.length) (.ref (h.length + 1))) else none

/-! ### dicts -/
def keyOk : D → Bool
  | .int _ => true
  | .str _ => true
  | _ => false
def keyTOk : D → Bool
  | .tup xs => xs.all keyOk
  | _ => false
def look (k : D) : List (D × D) → Option D
  | [] => none
  | (k', v) :: r => if D.beq k' k then some v else look k r
def put (k v : D) (kvs : List (D × D)) : List (D × D) :=
  if (kvs.any fun p => D.beq p.1 k) = true then kvs.map fun p => if D.beq p.1 k = true then (p.1, v) else p else kvs ++ [(k, v)]
def dget (k : D) : O → Option (Option D)
  | .dk kvs => if keyOk k then some (look k kvs) else none
  | .dt kvs => if keyTOk k then some (look k kvs) else none
  | _ => none
def dput (k v : D) : O → Option O
  | .dk kvs => if keyOk k && decide (kvs.length < lim) then some (.dk (put k v kvs)) else none
  | .dt kvs => if keyTOk k && decide (kvs.length < lim) then some (.dt (put k v kvs)) else none
  | _ => none

def addD (l : List D) (d : D) : List D := if l.any (fun y => D.beq y d) then l else l ++ [d]
def dist (ds : List D) : Nat := (ds.foldl addD []).length

/-! ### operators -/
inductive Bop where
  | add | sub | mul | fdiv | mod | pow
inductive Cop where
  | eq | ne | lt | le | gt | ge | is | isn | in_ | nin | inD
def mulOk (i j : Int) : Bool := decide (i.natAbs.log2 + j.natAbs.log2 < 1000000)
def divOk (j : Int) : Bool := decide (0 < j) && decide (j.natAbs.log2 < 9000)
def powOk (i j : Int) : Bool := decide (0 ≤ j) && decide (j ≤ 1000000) && decide (i.natAbs < 2 ^ 64)
def opt {α : Type} (h : Hp) : Option α → R α
  | some a => .ok a h
  | none => .bad
def when_ {α : Type} (b : Bool) (h : Hp) (a : α) : R α := match b with
  | true => .ok a h
  | false => .bad
def addV (h : Hp) : Rv → Rv → R Rv
  | .val (.int i), .val (.int j) => .ok (.val (.int (i + j))) h
  | .val (.str a), .val (.str b) => when_ (decide (a.length + b.length ≤ lim)) h (.val (.str (a ++ b)))
  | .val (.tup a), .val (.tup b) => when_ (decide (a.length + b.length ≤ lim)) h (.val (.tup (a ++ b)))
  | x, y => match objOf h x, objOf h y with
    | some (.lst a), some (.lst b) => when_ (decide (a.length + b.length ≤ lim)) h (.new (.lst (a ++ b)))
    | _, _ => .bad
def mulV (h : Hp) : Rv → Rv → R Rv
  | .val (.int i), .val (.int j) => when_ (mulOk i j) h (.val (.int (i * j)))
  | .val (.tup a), .val (.int j) => when_ (!a.isEmpty && decide (1 ≤ j) && decide (j ≤ 1000) && decide (a.length ≤ 1000)) h (.val (.tup (List.replicate j.toNat a).flatten))
  | .val (.str a), .val (.int j) => when_ (decide (a.length * j.toNat ≤ lim) && decide (-(2 ^ 62) ≤ j) && decide (j < 2 ^ 62)) h (.val (.str (List.replicate j.toNat a).flatten))
  | x, .val (.int j) => match objOf h x with
    | some (.lst a) => when_ (decide (a.length * j.toNat ≤ lim) && decide (-(2 ^ 63) ≤ j) && decide (j < 2 ^ 63)) h (.new (.lst (List.replicate j.toNat a).flatten))
    | _ => .bad
  | _, _ => .bad
def intOp (f : Int → Int → R Rv) : Rv → Rv → R Rv
  | .val (.int i), .val (.int j) => f i j
  | _, _ => .bad
def binV (h : Hp) : Bop → Rv → Rv → R Rv
  | .add, x, y => addV h x y
  | .mul, x, y => mulV h x y
  | .sub, x, y => intOp (fun i j => .ok (.val (.int (i - j))) h) x y
  | .fdiv, x, y => intOp (fun i j => when_ (divOk j) h (.val (.int (i / j)))) x y
  | .mod, x, y => intOp (fun i j => when_ (decide (0 < j)) h (.val (.int (i % j)))) x y
  | .pow, x, y => intOp (fun i j => when_ (powOk i j) h (.val (.int (i ^ j.toNat)))) x y
def ltS : List Nat → List Nat → Bool
  | [], [] => false
  | [], _ :: _ => true
  | _ :: _, [] => false
  | x :: xs, y :: ys => decide (x < y) || (decide (x = y) && ltS xs ys)
def ordV (x y : Rv) : Option (Bool × Bool) := match x, y with
  | .val (.int i), .val (.int j) => some (decide (i < j), decide (j < i))
  | .val (.str a), .val (.str b) => some (ltS a b, ltS b a)
  | _, _ => none
def flat : D → Bool
  | .non => true
  | .bl _ => true
  | .int _ => true
  | .str _ => true
  | _ => false
/-- == of flat values -/
def eqF : D → D → Bool
  | .non, .non => true
  | .bl a, .bl b => decide (a = b)
  | .bl a, .int j => decide ((if a then (1 : Int) else 0) = j)
  | .int i, .bl b => decide (i = (if b then (1 : Int) else 0))
  | .int i, .int j => decide (i = j)
  | .str a, .str b => decide (a = b)
  | _, _ => false
def inL (d : D) (xs : List D) : Option Bool := if flat d && xs.all flat then some (xs.any fun y => eqF y d) else none
def inV (h : Hp) : D → Rv → Option Bool
  | .str [c], .val (.str s) => some (decide (c ∈ s))
  | d, .val (.tup xs) => inL d xs
  | d, .val (.ktup xs) => inL d xs
  | d, .val (.rol xs) => inL d xs
  | d, r => (objOf h r).bind fun
    | .lst xs => inL d xs
    | o => (dget d o).map (·.isSome)
def boolR (h : Hp) : Option Bool → R Rv
  | some b => .ok (.val (.bl b)) h
  | none => .bad
def cmpV (h : Hp) : Cop → Rv → Rv → R Rv
  | .eq, x, y => boolR h (eqV h x y)
  | .ne, x, y => boolR h ((eqV h x y).map (!·))
  | .lt, x, y => boolR h ((ordV x y).map (·.1))
  | .gt, x, y => boolR h ((ordV x y).map (·.2))
  | .le, x, y => boolR h ((ordV x y).map (!·.2))
  | .ge, x, y => boolR h ((ordV x y).map (!·.1))
  | .is, x, .val .non => .ok (.val (.bl (match x with | .val .non => true | _ => false))) h
  | .isn, x, .val .non => .ok (.val (.bl (match x with | .val .non => false | _ => true))) h
  | .is, .val (.bl a), .val (.bl b) => .ok (.val (.bl (decide (a = b)))) h
  | .isn, .val (.bl a), .val (.bl b) => .ok (.val (.bl (!decide (a = b)))) h
  | .in_, .val d, y => boolR h (inV h d y)
  | .nin, .val d, y => boolR h ((inV h d y).map (!·))
  | .inD, .val d, y => boolR h ((lstOf h y).bind fun xs => if xs.all (dok h 59) && dok h 59 d then some (xs.any fun x => deq h 59 x d) else none)
  | _, _, _ => .bad
def truO : O → Option Bool
  | .lst xs => some (!xs.isEmpty)
  | .dk kvs => some (!kvs.isEmpty)
  | .dt _ => none
def tru (h : Hp) : Rv → Option Bool
  | .val .non => some false
  | .val (.bl b) => some b
  | .val (.int i) => some (i != 0)
  | .val (.str s) => if s.length ≤ lim then some (!s.isEmpty) else none
  | .val (.tup xs) => some (!xs.isEmpty)
  | .val (.ktup xs) => some (!xs.isEmpty)
  | .val (.rol xs) => some (!xs.isEmpty)
  | .val (.ref n) => (h[n]?).bind truO
  | .new o => truO o
def idxO (k : D) : O → Option D
  | .lst xs => match k with
    | .int i => atI xs i
    | _ => none
  | o => (dget k o).bind id
def idxV (h : Hp) : Rv → Rv → R Rv
  | .val (.tup xs), .val (.int i) => opt h ((atI xs i).map .val)
  | .val (.ktup xs), .val (.int i) => opt h ((atI xs i).map .val)
  | .val (.rol xs), .val (.int i) => opt h ((atI xs i).map .val)
  | .val (.str s), .val (.int i) => if s.length ≤ lim then opt h ((atI s i).map fun c => .val (.str [c])) else .bad
  | x, .val k => opt h (((objOf h x).bind (idxO k)).map .val)
  | _, _ => .bad
def optI : Option D → Option (Option Int)
  | none => some none
  | some (.int i) => some (some i)
  | _ => none
def slcV (h : Hp) (x : Rv) (lo hi : Option D) : R Rv :=
  match optI lo, optI hi with
  | some l, some u => match x with
    | .val (.tup xs) => .ok (.val (.tup (cut xs l u))) h
    | .val (.str s) => when_ (decide (s.length ≤ lim)) h (.val (.str (cut s l u)))
    | x => opt h ((lstOf h x).map fun xs => .new (.lst (cut xs l u)))
  | _, _ => .bad
def revV (h : Hp) : Rv → R Rv
  | .val (.tup xs) => .ok (.val (.tup xs.reverse)) h
  | .val (.str s) => when_ (decide (s.length ≤ lim)) h (.val (.str s.reverse))
  | x => opt h ((lstOf h x).map fun xs => .new (.lst xs.reverse))

/-! ### built-in functions -/
inductive B1 where
  | len | int | abs | sum | all | any | ord | str | repr | tuple | list | sorted | min | max | dict
inductive B2 where
  | min | max
inductive Ty where
  | int | bool | str | tuple | list | dict
def sumI : List D → Option Int
  | [] => some 0
  | .int i :: r => (sumI r).map (i + ·)
  | _ => none
def boolsOf : List D → Option (List Bool)
  | [] => some []
  | .bl b :: r => (boolsOf r).map (b :: ·)
  | _ => none
def intsOf : List D → Option (List Int)
  | [] => some []
  | .int i :: r => (intsOf r).map (i :: ·)
  | _ => none
def insI (x : Int) : List Int → List Int
  | [] => [x]
  | y :: r => if x ≤ y then x :: y :: r else y :: insI x r
def sortI : List Int → List Int
  | [] => []
  | x :: r => insI x (sortI r)
def minI (x : Int) (l : List Int) : Int := l.foldl (fun a b => if b < a then b else a) x
def maxI (x : Int) (l : List Int) : Int := l.foldl (fun a b => if b > a then b else a) x
def minL : List Int → Option Int
  | [] => none
  | x :: r => some (minI x r)
def maxL : List Int → Option Int
  | [] => none
  | x :: r => some (maxI x r)
/-- what repr gives -/
def reprD (h : Hp) (d : D) : Option (List Nat) :=
  if dok h 60 d && (toP h 60 d).showable && decide ((toP h 60 d).shown.length ≤ lim) then some (toP h 60 d).shown.cps.toList else none
def reprV (h : Hp) : Rv → Option (List Nat)
  | .val d => reprD h d
  | .new o => reprD (h ++ [o]) (.ref h.length)
/-- what str gives of an int -/
def intS (i : Int) : List Nat := (toString i : PySem.Str).cps.toList
/-- the items of a list or a tuple -/
def ltOf (h : Hp) : Rv → Option (List D)
  | .val (.tup xs) => some xs
  | .val (.ktup xs) => some xs
  | r => lstOf h r
def b1V (h : Hp) : B1 → Rv → R Rv
  | .len, x => opt h ((lenOf h x).bind fun n => if n ≤ lim then some (.val (.int n)) else none)
  | .int, .val (.int i) => .ok (.val (.int i)) h
  | .int, .val (.bl b) => .ok (.val (.int (if b then 1 else 0))) h
  | .abs, .val (.int i) => .ok (.val (.int (if i < 0 then -i else i))) h
  | .sum, x => opt h ((ltOf h x).bind fun ds => (sumI ds).map fun i => .val (.int i))
  | .all, x => opt h ((lstOf h x).bind fun ds => (boolsOf ds).map fun bs => .val (.bl (bs.all id)))
  | .any, x => opt h ((lstOf h x).bind fun ds => (boolsOf ds).map fun bs => .val (.bl (bs.any id)))
  | .ord, .val (.str [c]) => .ok (.val (.int c)) h
  | .str, .val (.int i) => when_ (decide (i.natAbs.log2 < 1920)) h (.val (.str (intS i)))
  | .str, .val (.str s) => .ok (.val (.str s)) h
  | .repr, x => opt h ((reprV h x).map fun s => .val (.str s))
  | .tuple, x => match x with
    | .val (.tup xs) => .ok (.val (.tup xs)) h
    | x => opt h ((lstOf h x).map fun ds => .val (.tup ds))
  | .list, x => opt h ((seqV h x).map fun ds => .new (.lst ds))
  | .sorted, x => opt h ((lstOf h x).bind fun ds => (intsOf ds).map fun is => .new (.lst ((sortI is).map .int)))
  | .min, x => opt h ((ltOf h x).bind fun ds => (intsOf ds).bind fun is => (minL is).map fun i => .val (.int i))
  | .max, x => opt h ((ltOf h x).bind fun ds => (intsOf ds).bind fun is => (maxL is).map fun i => .val (.int i))
  | _, _ => .bad
def b2V (h : Hp) : B2 → Rv → Rv → R Rv
  | .min, .val (.int i), .val (.int j) => .ok (.val (.int (if j < i then j else i))) h
  | .max, .val (.int i), .val (.int j) => .ok (.val (.int (if j > i then j else i))) h
  | _, _, _ => .bad
def tyO : Ty → O → Bool
  | .list, .lst _ => true
  | .dict, .dk _ => true
  | .dict, .dt _ => true
  | _, _ => false
def tyIs : Ty → Rv → Hp → Option Bool
  | t, .val .non, _ => some false
  | t, .val (.bl _), _ => some (match t with | .int => true | .bool => true | _ => false)
  | t, .val (.int _), _ => some (match t with | .int => true | _ => false)
  | t, .val (.str _), _ => some (match t with | .str => true | _ => false)
  | t, .val (.ktup _), _ => some (match t with | .tuple => true | _ => false)
  | t, .val (.rol _), _ => some (match t with | .list => true | _ => false)
  | t, .val (.tup _), _ => some (match t with | .tuple => true | _ => false)
  | t, r, h => (objOf h r).map (tyO t)

/-! ### methods -/
inductive Mt where
  | append | extend | pop | join | index | get2 | starts | indexL
def joinS (sep : List Nat) : List (List Nat) → List Nat
  | [] => []
  | [x] => x
  | x :: r => x ++ sep ++ joinS sep r
def strsOf : List D → Option (List (List Nat))
  | [] => some []
  | .str s :: r => (strsOf r).map (s :: ·)
  | _ => none
def idxOf (c : Nat) : List Nat → Option Nat
  | [] => none
  | x :: r => if x = c then some 0 else (idxOf c r).map (· + 1)
/-- the first place of an equal value -/
def idxD (h : Hp) (d : D) : List D → Option Nat
  | [] => none
  | x :: r => if deq h 59 x d then some 0 else (idxD h d r).map (· + 1)
def boxOne (h : Hp) : Rv → D × Hp
  | .val d => (d, h)
  | .new o => (.ref h.length, h ++ [o])
def boxAll (h : Hp) : List Rv → List D × Hp
  | [] => ([], h)
  | r :: rs => match boxOne h r with
    | (d, h1) => match boxAll h1 rs with
      | (ds, h2) => (d :: ds, h2)
/-- the receiver is of the kind that has the method -/
def recv (h : Hp) : Mt → Rv → Bool
  | .append, .val (.ref n) => ((h[n]?).bind lstIn).isSome
  | .extend, .val (.ref n) => ((h[n]?).bind lstIn).isSome
  | .pop, .val (.ref n) => ((h[n]?).bind lstIn).isSome
  | .join, .val (.str _) => true
  | .index, .val (.str _) => true
  | .starts, .val (.str _) => true
  | .indexL, r => (lstOf h r).isSome
  | .get2, r => match objOf h r with
    | some (.dk _) => true
    | some (.dt _) => true
    | _ => false
  | _, _ => false
def mtV (h : Hp) : Mt → Rv → List Rv → R Rv
  | .append, .val (.ref n), [x] => match h[n]? with
    | some (.lst xs) => match boxOne h x with
      | (d, h1) => when_ (decide (xs.length < lim)) (h1.set n (.lst (xs ++ [d]))) (.val .non)
    | _ => .bad
  | .extend, .val (.ref n), [x] => match h[n]? with
    | some (.lst xs) => match objOf h x with
      | some (.lst ys) => when_ (decide (xs.length + ys.length ≤ lim)) (h.set n (.lst (xs ++ ys))) (.val .non)
      | _ => .bad
    | _ => .bad
  | .pop, .val (.ref n), [] => match h[n]? with
    | some (.lst xs) => match xs.getLast? with
      | some d => .ok (.val d) (h.set n (.lst xs.dropLast))
      | none => .bad
    | _ => .bad
  | .join, .val (.str sep), [x] => opt h ((ltOf h x).bind fun ds => (strsOf ds).bind fun ss => if (ss.map (·.length)).sum + ss.length * sep.length ≤ 16777216 then some (.val (.str (joinS sep ss))) else none)
  | .index, .val (.str s), [.val (.str [c])] => opt h ((idxOf c s).map fun (i : Nat) => Rv.val (.int (i : Int)))
  | .starts, .val (.str s), [.val (.str t)] => .ok (.val (.bl (s.take t.length == t))) h
  | .indexL, x, [.val d] => opt h ((lstOf h x).bind fun xs => if xs.all (dok h 59) && dok h 59 d then (idxD h d xs).map fun (i : Nat) => Rv.val (.int (i : Int)) else none)
  | .get2, x, [.val k, .val z] => opt h ((objOf h x).bind fun o => (dget k o).map fun v => .val (v.getD z))
  | _, _, _ => .bad

/-! ### texts -/
/-- the target of a loop: one slot, or the slots of a tuple's items -/
inductive Tg where
  | one (i : Nat) | many (is : List Nat)
mutual
inductive E where
  | c (d : D) | var (i : Nat) | glb (x : Nat) (d : D)
  | neg (a : E) | not (a : E)
  | bin (o : Bop) (a b : E) | cmp (o : Cop) (a b : E) | ch (o o' : Cop) (a b c : E) | ch3 (o o' o'' : Cop) (a b c d : E)
  | and (a b : E) | or (a b : E) | ife (t a b : E)
  | tup (es : Es) | lst (es : Es) | dk (ks : List (List Nat)) (es : Es) | dk0 | dt
  | idx (a i : E) | slc (a : E) (lo hi : Oe) | rev (a : E) | rev2 (a : E)
  | call (f : Nat) (es : Es)
  | b1 (b : B1) (a : E) | b2 (b : B2) (a c : E) | isi (a : E) (t : Ty)
  | mt (m : Mt) (o : E) (es : Es)
  | lc (own : List Nat) (tg : Tg) (it : It) (cs : Es) (elt : E)
  | lenS (own : List Nat) (tg : Tg) (it : It) (elt : E)
  | lc2 (own : List Nat) (tg : Tg) (it : It) (tg1 : Tg) (it1 : It) (elt : E)
  | opq
inductive Es where
  | nil | cons (e : E) (es : Es)
inductive Oe where
  | none | some (e : E)
inductive It where
  | seq (e : E) | r1 (a : E) | r2 (a b : E) | r3 (a b c : E) | enu (e : E) | zip (a b : E)
end
/-- what an except suite stores: constants, fields of the error -/
inductive HX where
  | c (d : D) | fld (k : Nat)
inductive HE where
  | one (x : HX) | tup (xs : List HX)
/-- except cls as nm: slot = e -/
structure Hd where
  cls : Nat
  nm : Option Nat
  slot : Nat
  e : HE
mutual
inductive S where
  | asg (i : Nat) (e : E) | asgT (is : List Nat) (e : E) | set (o i e : E) | aug (i : Nat) (o : Bop) (e : E) | ex (e : E)
  | ife (t : E) (a b : Ss) | for_ (tg : Tg) (it : It) (b : Ss) | whl (t : E) (b : Ss)
  | ret (e : E) | retN | brk | cnt | pass | rse (c : Nat) (es : Es)
  | try_ (b : Ss) (hs : List Hd)
  | opq
inductive Ss where
  | nil | cons (s : S) (ss : Ss)
end
/-- a def: how many parameters, how many slots, its body -/
structure Fn where
  np : Nat
  ns : Nat
  body : Ss

/-! ### where what is raised may pass through (t: as a test) -/
mutual
def xa : Bool → E → Bool
  | _, .c _ => true
  | _, .var _ => true
  | _, .glb _ _ => true
  | t, .not a => t && xa true a
  | _, .bin _ a b => xa false a && xa false b
  | _, .cmp _ a b => xa false a && xa false b
  | _, .idx a b => xa false a && xa false b
  | _, .tup es => xas es
  | _, .call _ es => xas es
  | _, .b1 _ a => xa false a
  | t, .ife c a b => !t && xa true c && xa false a && xa false b
  | _, _ => false
def xas : Es → Bool
  | .nil => true
  | .cons e es => xa false e && xas es
end
/-! ### the evaluator -/
/-- the slots of a comprehension's own names are empty -/
def wipeE (ρ : Env) : List Nat → Env
  | [] => ρ
  | v :: vs => (wipeE ρ vs).set v none
/-- a loop's target takes an item -/
def bindTg (ρ : Env) : Tg → D → Option Env
  | .one i, d => some (ρ.set i (some d))
  | .many is, .tup xs => if is.length = xs.length then some ((is.zip xs).foldl (fun ρ p => ρ.set p.1 (some p.2)) ρ) else none
  | .many is, .ktup xs => if is.length = xs.length then some ((is.zip xs).foldl (fun ρ p => ρ.set p.1 (some p.2)) ρ) else none
  | .many _, _ => none
/-- the same lists still stand where they are walked -/
def same (h : Hp) : List (Nat × List D) → Bool
  | [] => true
  | (n, xs) :: r => (match (h[n]?).bind lstIn with | some ys => D.beqs xs ys | none => false) && same h r
def watch (h : Hp) : Rv → List (Nat × List D)
  | .val (.ref n) => match (h[n]?).bind lstIn with
    | some xs => [(n, xs)]
    | none => []
  | _ => []
def rangeL (lo : Int) (step : Int) : Nat → List D
  | 0 => []
  | n + 1 => .int lo :: rangeL (lo + step) step n
def rangeN (lo hi step : Int) : Nat := (PySem.Builtin.Range.rangeSize lo hi step).toNat
def small (i : Int) : Bool := decide (-(2 ^ 62) ≤ i) && decide (i < 2 ^ 62)
def enumL (k : Int) : List D → List D
  | [] => []
  | d :: r => .tup [.int k, d] :: enumL (k + 1) r
def zipL : List D → List D → List D
  | x :: xs, y :: ys => .tup [x, y] :: zipL xs ys
  | _, _ => []

inductive SR where
  | nx (ρ : Env) (h : Hp) | rt (r : Rv) (h : Hp) | bk (ρ : Env) (h : Hp) | ct (ρ : Env) (h : Hp) | exc (c : Nat) (ds : List D) (ρ : Env) (h : Hp) | bad

/-- a for loop over its items -/
def forL (bind : D → Env → Option Env) (ws : List (Nat × List D)) (body : Env → Hp → SR) : List D → Env → Hp → SR
  | [], ρ, h => match same h ws with
    | true => .nx ρ h
    | false => .bad
  | d :: ds, ρ, h => match same h ws, bind d ρ with
    | true, some ρ1 => match body ρ1 h with
      | .nx ρ2 h2 => forL bind ws body ds ρ2 h2
      | .ct ρ2 h2 => forL bind ws body ds ρ2 h2
      | .bk ρ2 h2 => .nx ρ2 h2
      | .rt r h2 => .rt r h2
      | .exc c es ρ2 h2 => .exc c es ρ2 h2
      | .bad => .bad
    | _, _ => .bad
def whileL (test : Env → Hp → R Bool) (body : Env → Hp → SR) : Nat → Env → Hp → SR
  | 0, _, _ => .bad
  | n + 1, ρ, h => match test ρ h with
    | .ok false h1 => .nx ρ h1
    | .ok true h1 => match body ρ h1 with
      | .nx ρ2 h2 => whileL test body n ρ2 h2
      | .ct ρ2 h2 => whileL test body n ρ2 h2
      | .bk ρ2 h2 => .nx ρ2 h2
      | .rt r h2 => .rt r h2
      | .exc c es ρ2 h2 => .exc c es ρ2 h2
      | .bad => .bad
    | _ => .bad
/-- a comprehension over its items -/
def compL (ws : List (Nat × List D)) (f : D → Hp → R (List D)) : List D → Hp → R (List D)
  | [], h => match same h ws with
    | true => .ok [] h
    | false => .bad
  | d :: ds, h => match same h ws with
    | true => match f d h with
      | .ok xs h1 => match compL ws f ds h1 with
        | .ok ys h2 => .ok (xs ++ ys) h2
        | _ => .bad
      | _ => .bad
    | false => .bad
/-- how often a while loop may turn -/
def fuel : Nat := 1000000
/-- what a call gives back into the caller's heap, where the callee had a heap of its own -/
def unbox (hc : Hp) : Rv → Option Rv
  | .val (.ref n) => (hc[n]?).bind fun o => if o.free then some (.new o) else none
  | r => if r.free then some r else none
def callV (C : Nat → List D → Hp → R Rv) (f : Nat) (rs : List Rv) (h : Hp) : R Rv :=
  match rs.all Rv.free with
  | true => match boxAll [] rs with
    | (ds, h0) => match C f ds h0 with
      | .ok r hc => match unbox hc r with
        | some r' => .ok r' h
        | none => match boxAll h rs with
          | (ds, h1) => C f ds h1
      | .exc c es hc => match D.frees es with
        | true => .exc c es h
        | false => match boxAll h rs with
          | (ds, h1) => C f ds h1
      | .bad => .bad
  | false => match boxAll h rs with
    | (ds, h1) => C f ds h1

section
variable (C : Nat → List D → Hp → R Rv)
mutual
def ev : E → Env → Hp → R Rv
  | .c d, _, h => .ok (.val d) h
  | .var i, ρ, h => match ρ[i]? with
    | some (some d) => .ok (.val d) h
    | _ => .bad
  | .glb _ d, _, h => .ok (.val d) h
  | .neg a, ρ, h => (ev a ρ h).bind fun x h => match x with
    | .val (.int i) => .ok (.val (.int (-i))) h
    | _ => .bad
  | .not a, ρ, h => (tst a ρ h).bind fun b h => .ok (.val (.bl (!b))) h
  | .bin o a b, ρ, h => (ev a ρ h).bind fun x h => (ev b ρ h).bind fun y h => binV h o x y
  | .cmp o a b, ρ, h => (ev a ρ h).bind fun x h => (ev b ρ h).bind fun y h => cmpV h o x y
  | .ch o o' a b c, ρ, h => (ev a ρ h).bind fun x h => (ev b ρ h).bind fun y h => (cmpV h o x y).bind fun z h => match z with
    | .val (.bl true) => (ev c ρ h).bind fun w h => cmpV h o' y w
    | .val (.bl false) => .ok (.val (.bl false)) h
    | _ => .bad
  | .ch3 o o' o'' a b c d, ρ, h => (ev a ρ h).bind fun x h => (ev b ρ h).bind fun y h => match y with
    | .val (.int i) => (cmpV h o x (.val (.int i))).bind fun z h => match z with
      | .val (.bl true) => (ev c ρ h).bind fun w h => match w with
        | .val (.int j) => (cmpV h o' (.val (.int i)) (.val (.int j))).bind fun z h => match z with
          | .val (.bl true) => (ev d ρ h).bind fun u h => cmpV h o'' (.val (.int j)) u
          | .val (.bl false) => .ok (.val (.bl false)) h
          | _ => .bad
        | _ => .bad
      | .val (.bl false) => .ok (.val (.bl false)) h
      | _ => .bad
    | _ => .bad
  | .and a b, ρ, h => (ev a ρ h).bind fun x h => match x with
    | .val (.bl true) => ev b ρ h
    | .val (.bl false) => .ok (.val (.bl false)) h
    | _ => .bad
  | .or a b, ρ, h => (ev a ρ h).bind fun x h => match x with
    | .val (.bl true) => .ok (.val (.bl true)) h
    | .val (.bl false) => ev b ρ h
    | _ => .bad
  | .ife t a b, ρ, h => (tst t ρ h).bind fun c h => match c with
    | true => ev a ρ h
    | false => ev b ρ h
  | .tup es, ρ, h => (evs es ρ h).bind fun rs h => match boxAll h rs with
    | (ds, h1) => when_ (decide (ds.length ≤ lim)) h1 (.val (.tup ds))
  | .lst es, ρ, h => (evs es ρ h).bind fun rs h => match boxAll h rs with
    | (ds, h1) => when_ (decide (ds.length ≤ lim)) h1 (.new (.lst ds))
  | .dk ks es, ρ, h => (evs es ρ h).bind fun rs h => match boxAll h rs with
    | (ds, h1) => when_ (decide (ks.length = ds.length) && decide (ks.length ≤ 15) && decide ks.Nodup) h1 (.new (.dk ((ks.map D.str).zip ds)))
  | .dk0, _, h => .ok (.new (.dk [])) h
  | .dt, _, h => .ok (.new (.dt [])) h
  | .idx a i, ρ, h => (ev a ρ h).bind fun x h => (ev i ρ h).bind fun y h => idxV h x y
  | .slc a lo hi, ρ, h => (ev a ρ h).bind fun x h => (evo lo ρ h).bind fun l h => (evo hi ρ h).bind fun u h => slcV h x l u
  | .rev a, ρ, h => (ev a ρ h).bind fun x h => revV h x
  | .rev2 a, ρ, h => (ev a ρ h).bind fun x h => opt h ((lstOf h x).map fun xs => .new (.lst xs.dropLast.reverse))
  | .call f es, ρ, h => (evs es ρ h).bind fun rs h => callV C f rs h
  | .b1 b a, ρ, h => (ev a ρ h).bind fun x h => b1V h b x
  | .b2 b a c, ρ, h => (ev a ρ h).bind fun x h => (ev c ρ h).bind fun y h => b2V h b x y
  | .isi a t, ρ, h => (ev a ρ h).bind fun x h => boolR h (tyIs t x h)
  | .mt m o es, ρ, h => (ev o ρ h).bind fun x h => match recv h m x with
    | true => (evs es ρ h).bind fun rs h => mtV h m x rs
    | false => .bad
  | .lc own tg it cs elt, ρ, h => (evi it ρ h).bind fun p h => (compL p.2 (fun d h => match bindTg (wipeE ρ own) tg d with
      | some ρ1 => (tsts cs ρ1 h).bind fun b h => match b with
        | true => (ev elt ρ1 h).bind fun r h => match boxOne h r with
          | (d, h1) => .ok [d] h1
        | false => .ok [] h
      | none => .bad) p.1 h).bind fun ds h => when_ (decide (ds.length ≤ lim)) h (.new (.lst ds))
  | .lenS own tg it elt, ρ, h => (evi it ρ h).bind fun p h => (compL p.2 (fun d h => match bindTg (wipeE ρ own) tg d with
      | some ρ1 => (ev elt ρ1 h).bind fun r h => match r with
        | .val d => when_ (keyOk d) h [d]
        | _ => .bad
      | none => .bad) p.1 h).bind fun ds h => when_ (decide (ds.length < 4000)) h (.val (.int (dist ds : Nat)))
  | .lc2 own tg it tg1 it1 elt, ρ, h => (evi it ρ h).bind fun p h => (compL p.2 (fun d h => match bindTg (wipeE ρ own) tg d with
      | some ρ1 => (evi it1 ρ1 h).bind fun q h => compL q.2 (fun d h => match bindTg ρ1 tg1 d with
        | some ρ2 => (ev elt ρ2 h).bind fun r h => match boxOne h r with
          | (d, h1) => .ok [d] h1
        | none => .bad) q.1 h
      | none => .bad) p.1 h).bind fun ds h => when_ (decide (ds.length ≤ lim)) h (.new (.lst ds))
  | .opq, _, _ => .bad
/-- a test -/
def tst : E → Env → Hp → R Bool
  | .not a, ρ, h => (tst a ρ h).bind fun b h => .ok (!b) h
  | .and a b, ρ, h => (tst a ρ h).bind fun c h => match c with
    | true => tst b ρ h
    | false => .ok false h
  | .or a b, ρ, h => (tst a ρ h).bind fun c h => match c with
    | true => .ok true h
    | false => tst b ρ h
  | e, ρ, h => (ev e ρ h).bind fun x h => opt h (tru h x)
def tsts : Es → Env → Hp → R Bool
  | .nil, _, h => .ok true h
  | .cons e _, ρ, h => tst e ρ h
def evs : Es → Env → Hp → R (List Rv)
  | .nil, _, h => .ok [] h
  | .cons e es, ρ, h => (ev e ρ h).bind fun x h => (evs es ρ h).bind fun xs h => .ok (x :: xs) h
def evo : Oe → Env → Hp → R (Option D)
  | .none, _, h => .ok none h
  | .some e, ρ, h => (ev e ρ h).bind fun x h => match x with
    | .val d => .ok (some d) h
    | _ => .bad
/-- what is walked: its items, and the lists that are to stay -/
def evi : It → Env → Hp → R (List D × List (Nat × List D))
  | .seq e, ρ, h => (ev e ρ h).bind fun x h => opt h ((itemsOf h x).map fun ds => (ds, watch h x))
  | .r1 a, ρ, h => (ev a ρ h).bind fun x h => match x with
    | .val (.int j) => when_ (small j) h (rangeL 0 1 j.toNat, [])
    | _ => .bad
  | .r2 a b, ρ, h => (ev a ρ h).bind fun x h => (ev b ρ h).bind fun y h => match x, y with
    | .val (.int i), .val (.int j) => when_ (small i && small j) h (rangeL i 1 (j - i).toNat, [])
    | _, _ => .bad
  | .r3 a b c, ρ, h => (ev a ρ h).bind fun x h => (ev b ρ h).bind fun y h => (ev c ρ h).bind fun z h => match x, y, z with
    | .val (.int i), .val (.int j), .val (.int k) => when_ (decide (k ≠ 0) && decide (k.natAbs < 1073741824) && PySem.Builtin.Range.small i j k && decide (0 ≤ PySem.Builtin.Range.rangeSize i j k)) h (rangeL i k (rangeN i j k), [])
    | _, _, _ => .bad
  | .enu e, ρ, h => (ev e ρ h).bind fun x h => opt h ((itemsOf h x).map fun ds => (enumL 0 ds, watch h x))
  | .zip a b, ρ, h => (ev a ρ h).bind fun x h => (ev b ρ h).bind fun y h => match itemsOf h x, itemsOf h y with
    | some xs, some ys => .ok (zipL xs ys, watch h x ++ watch h y) h
    | _, _ => .bad
end

/-- b: what is raised here passes on -/
def R.st {α : Type} (b : Bool) (ρ : Env) (r : R α) (f : α → Hp → SR) : SR := match r with
  | .ok a h => f a h
  | .exc c ds h => match b with
    | true => .exc c ds ρ h
    | false => .bad
  | .bad => .bad
def hx1 (ds : List D) : HX → Option D
  | .c d => some d
  | .fld k => ds[k]?
def hxs (ds : List D) : List HX → Option (List D)
  | [] => some []
  | x :: xs => (hx1 ds x).bind fun d => (hxs ds xs).map (d :: ·)
def hev (ds : List D) : HE → Option D
  | .one x => hx1 ds x
  | .tup xs => (hxs ds xs).map .tup
def unset (ρ : Env) : Option Nat → Env
  | none => ρ
  | some i => ρ.set i none
/-- an exception meets the clauses -/
def meet (hs : List Hd) (c : Nat) (ds : List D) (ρ : Env) (h : Hp) : SR := match hs with
  | [] => .exc c ds ρ h
  | hd :: r => match decide (hd.cls = c) with
    | true => match hev ds hd.e with
      | some d => .nx (unset ((unset ρ hd.nm).set hd.slot (some d)) hd.nm) h
      | none => .bad
    | false => meet r c ds ρ h
/-- op= of whole numbers -/
def low64 (i : Int) : Bool := decide (-(2 ^ 64) < i) && decide (i < 2 ^ 64)
def augV : Bop → D → Rv → Option Int
  | .add, .int i, .val (.int j) => some (i + j)
  | .sub, .int i, .val (.int j) => some (i - j)
  | .mul, .int i, .val (.int j) => if low64 i || low64 j then some (i * j) else none
  | _, _, _ => none
def setV (h : Hp) (o i v : Rv) : Option Hp :=
  match o, i with
  | .val (.ref n), .val k => match boxOne h v with
    | (d, h1) => match h1[n]? with
      | some (.lst xs) => match k with
        | .int i => (ixN xs.length i).map fun j => h1.set n (.lst (xs.set j d))
        | _ => none
      | some ob => (dput k d ob).map fun ob' => h1.set n ob'
      | none => none
  | _, _ => none
mutual
def ex : S → Env → Hp → SR
  | .asg i e, ρ, h => (ev C e ρ h).st (xa false e) ρ fun r h => match boxOne h r with
    | (d, h1) => .nx (ρ.set i (some d)) h1
  | .asgT is e, ρ, h => (ev C e ρ h).st (xa false e) ρ fun r h => match r with
    | .val d => match bindTg ρ (.many is) d with
      | some ρ1 => .nx ρ1 h
      | none => match (lstOf h (.val d)).bind fun xs => bindTg ρ (.many is) (.tup xs) with
        | some ρ1 => .nx ρ1 h
        | none => .bad
    | _ => .bad
  | .set o i e, ρ, h => (ev C e ρ h).st false ρ fun v h => (ev C o ρ h).st false ρ fun x h => (ev C i ρ h).st false ρ fun y h => match setV h x y v with
    | some h1 => .nx ρ h1
    | none => .bad
  | .aug i o e, ρ, h => match ρ[i]? with
    | some (some d) => (ev C e ρ h).st false ρ fun y h => match augV o d y with
      | some i' => .nx (ρ.set i (some (.int i'))) h
      | none => .bad
    | _ => .bad
  | .ex e, ρ, h => (ev C e ρ h).st (xa false e) ρ fun _ h => .nx ρ h
  | .ife t a b, ρ, h => (tst C t ρ h).st (xa true t) ρ fun c h => match c with
    | true => exs a ρ h
    | false => exs b ρ h
  | .for_ tg it b, ρ, h => (evi C it ρ h).st false ρ fun p h => forL (fun d ρ => bindTg ρ tg d) p.2 (exs b) p.1 ρ h
  | .whl t b, ρ, h => whileL (tst C t) (exs b) fuel ρ h
  | .ret e, ρ, h => (ev C e ρ h).st (xa false e) ρ fun r h => .rt r h
  | .retN, _, h => .rt (.val .non) h
  | .brk, ρ, h => .bk ρ h
  | .cnt, ρ, h => .ct ρ h
  | .pass, ρ, h => .nx ρ h
  | .rse c es, ρ, h => (evs C es ρ h).st false ρ fun rs h => match boxAll h rs with
    | (ds, h1) => .exc c ds ρ h1
  | .try_ b hs, ρ, h => match exs b ρ h with
    | .exc c ds ρ1 h1 => meet hs c ds ρ1 h1
    | r => r
  | .opq, _, _ => .bad
def exs : Ss → Env → Hp → SR
  | .nil, ρ, h => .nx ρ h
  | .cons s ss, ρ, h => match ex s ρ h with
    | .nx ρ1 h1 => exs ss ρ1 h1
    | r => r
end
/-- a def's body, run -/
def runFn (f : Fn) (ds : List D) (h : Hp) : R Rv :=
  match decide (ds.length = f.np) with
  | true => match exs C f.body (ds.map some ++ List.replicate (f.ns - f.np) none) h with
    | .nx _ h1 => .ok (.val .non) h1
    | .rt r h1 => .ok r h1
    | .exc c es _ h1 => .exc c es h1
    | _ => .bad
  | false => .bad
end
/-- the defs of a program, by depth of calls -/
def sem (P : Nat → Option Fn) : Nat → Nat → List D → Hp → R Rv
  | 0, _, _, _ => .bad
  | k + 1, f, ds, h => match P f with
    | some fn => runFn (sem P k) fn ds h
    | none => .bad
end G

/-! G1: what the data of G0 stand for in the model. -/
namespace G
open PySem PySem.Spec L2
abbrev AHp := L2.Hp
abbrev Frag := PySem.W.Frag
/-- a list that nobody writes -/
def SqR (K : Frag) (H : AHp) (a : Addr) (xs : List V) : Prop :=
  (∃ o, H a = some (.frz o (.lst xs))) ∨ ∃ (o : Obj) (its : Array Value) (n : Nat), K.lookup a = some o ∧ o.cls = .type "list" ∧ o.dict = none ∧ o.data = .seq its n ∧ its.size ≤ sizeLine ∧ Vals xs its.toList
theorem SqR.sq {K : Frag} {H : AHp} {a : Addr} {xs : List V} (h : SqR K H a xs) : SqL K H a xs := by
  rcases h with ⟨o, h⟩ | h
  · exact .inl (.inr ⟨o, h⟩)
  · exact .inr h
section
variable (K : Frag) (β : List Addr) (H : AHp)
mutual
def Rel : D → V → Prop
  | .non, v => v = .non
  | .bl b, v => v = .bl b
  | .int i, v => v = .int i
  | .str s, v => v = .str (tx s)
  | .tup ds, v => ∃ a vs, v = .ref a ∧ H a = some (.tup vs) ∧ Rels ds vs
  | .ktup ds, v => ∃ a vs, v = .ref a ∧ SqT K (fun _ => none) a vs ∧ Rels ds vs
  | .rol ds, v => ∃ a vs, v = .ref a ∧ SqR K H a vs ∧ Rels ds vs
  | .ref n, v => ∃ a, v = .ref a ∧ β[n]? = some a
def Rels : List D → List V → Prop
  | [], vs => vs = []
  | d :: ds, vs => ∃ v r, vs = v :: r ∧ Rel d v ∧ Rels ds r
end
/-- keys -/
def keyR : D → Key → Prop
  | .int i, k => k = .inl i
  | .str s, k => k = .inr (tx s)
  | _, _ => False
def keysR : List D → List Key → Prop
  | [], ks => ks = []
  | d :: ds, ks => ∃ k r, ks = k :: r ∧ keyR d k ∧ keysR ds r
def keyT : D → List Key → Prop
  | .tup ds, ks => keysR ds ks
  | _, _ => False
def kvR : List (D × D) → List (Key × V) → Prop
  | [], l => l = []
  | (d, e) :: r, l => ∃ k v t, l = (k, v) :: t ∧ keyR d k ∧ Rel K β H e v ∧ kvR r t
def kvT : List (D × D) → List (List Key × V) → Prop
  | [], l => l = []
  | (d, e) :: r, l => ∃ k v t, l = (k, v) :: t ∧ keyT d k ∧ Rel K β H e v ∧ kvT r t
def ObjR : O → Addr → Prop
  | .lst ds, a => ∃ vs, H a = some (.lst vs) ∧ Rels K β H ds vs
  | .dk kvs, a => ∃ l, H a = some (.dK l) ∧ kvR K β H kvs l
  | .dt kvs, a => ∃ l, H a = some (.dT l) ∧ kvT K β H kvs l
/-- what an expression gives, with the address of a new object -/
def RelR : Rv → V → List Addr → Prop
  | .val d, v, F => F = [] ∧ Rel K β H d v
  | .new o, v, F => ∃ a, v = .ref a ∧ F = [a] ∧ ObjR K β H o a
def RelRs : List Rv → List V → List Addr → Prop
  | [], vs, F => vs = [] ∧ F = []
  | r :: rs, vs, F => ∃ v t F1 F2, vs = v :: t ∧ F = F1 ++ F2 ∧ RelR K β H r v F1 ∧ RelRs rs t F2
end
/-- what is kept from one heap to a later one -/
structure Ext (β : List Addr) (H : AHp) (β' : List Addr) (H' : AHp) : Prop where
  fr : ∀ a o, H a = some o → a ∉ β → H' a = some o
  nw : ∀ a ∈ β', a ∈ β ∨ H a = none
  pre : ∃ l, β' = β ++ l
/-- the mutable objects that the heap h tells -/
structure HpOk (K : Frag) (β : List Addr) (H : AHp) (h : Hp) : Prop where
  len : β.length = h.length
  nd : β.Nodup
  obj : ∀ (n : Nat) (o : O), h[n]? = some o → ∃ a, β[n]? = some a ∧ ObjR K β H o a
structure EnvOk (K : Frag) (β : List Addr) (H : AHp) (σ : St) (ρ : Env) : Prop where
  len : ρ.length = σ.length
  env : ∀ (i : Nat) (d : D), ρ[i]? = some (some d) → ∃ v, σ[i]? = some (some v) ∧ Rel K β H d v

section
variable {K : Frag} {β β' β2 : List Addr} {H H' H2 : AHp} {h : Hp}
theorem Ext.refl : Ext β H β H := ⟨fun _ _ e _ => e, fun a m => .inl m, ⟨[], by simp⟩⟩
theorem Ext.trans (x : Ext β H β' H') (y : Ext β' H' β2 H2) : Ext β H β2 H2 := by
  refine ⟨fun a o e n => ?_, fun a m => ?_, ?_⟩
  · refine y.fr a o (x.fr a o e n) fun m => ?_
    rcases x.nw a m with q | q
    · exact n q
    · rw [e] at q; cases q
  · rcases y.nw a m with q | q
    · exact x.nw a q
    · by_cases hb : a ∈ β
      · exact .inl hb
      · refine .inr ?_
        cases e : H a with
        | none => rfl
        | some o => rw [x.fr a o e hb] at q; cases q
  · obtain ⟨l, e⟩ := x.pre
    obtain ⟨l2, e2⟩ := y.pre
    exact ⟨l ++ l2, by rw [e2, e, List.append_assoc]⟩
theorem ObjR.mut {o : O} {a : Addr} (x : ObjR K β H o a) : (∃ vs, H a = some (.lst vs)) ∨ (∃ l, H a = some (.dK l)) ∨ ∃ l, H a = some (.dT l) := by
  cases o with
  | lst ds => obtain ⟨vs, e, _⟩ := x; exact .inl ⟨vs, e⟩
  | dk kvs => obtain ⟨l, e, _⟩ := x; exact .inr (.inl ⟨l, e⟩)
  | dt kvs => obtain ⟨l, e, _⟩ := x; exact .inr (.inr ⟨l, e⟩)
theorem HpOk.mem (ok : HpOk K β H h) {a : Addr} (m : a ∈ β) : (∃ vs, H a = some (.lst vs)) ∨ (∃ l, H a = some (.dK l)) ∨ ∃ l, H a = some (.dT l) := by
  obtain ⟨n, hn, e⟩ := List.getElem_of_mem m
  have hl : n < h.length := by rw [← ok.len]; exact hn
  obtain ⟨b, e1, ob⟩ := ok.obj n h[n] (List.getElem?_eq_getElem hl)
  rw [List.getElem?_eq_getElem hn, e] at e1
  cases e1
  exact ob.mut
theorem HpOk.some (ok : HpOk K β H h) {a : Addr} (m : a ∈ β) : H a ≠ none := by
  rcases ok.mem m with ⟨_, e⟩ | ⟨_, e⟩ | ⟨_, e⟩ <;> rw [e] <;> simp
/-- what the values lean on is kept -/
structure Kp (K : Frag) (β : List Addr) (H : AHp) (β' : List Addr) (H' : AHp) : Prop where
  tup : ∀ a vs, H a = some (.tup vs) → H' a = some (.tup vs)
  rol : ∀ a vs, SqR K H a vs → SqR K H' a vs
  ix : ∀ (n : Nat) (a : Addr), β[n]? = some a → β'[n]? = some a
theorem Kp.refl : Kp K β H β H := ⟨fun _ _ x => x, fun _ _ x => x, fun _ _ x => x⟩
theorem Kp.of (ok : HpOk K β H h) (x : Ext β H β' H') : Kp K β H β' H' := by
  refine ⟨fun a vs s => ?_, fun a vs s => ?_, fun n a e => ?_⟩
  · refine x.fr a _ s fun m => ?_
    rcases ok.mem m with ⟨_, q⟩ | ⟨_, q⟩ | ⟨_, q⟩ <;> rw [s] at q <;> cases q
  · rcases s with ⟨o, e⟩ | s
    · refine .inl ⟨o, x.fr a _ e fun m => ?_⟩
      rcases ok.mem m with ⟨_, q⟩ | ⟨_, q⟩ | ⟨_, q⟩ <;> rw [e] at q <;> cases q
    · exact .inr s
  · obtain ⟨l, e2⟩ := x.pre
    rw [e2, List.getElem?_append_left (List.getElem?_eq_some_iff.mp e).1]
    exact e
mutual
theorem Rel.mono (k : Kp K β H β' H') : ∀ (d : D) (v : V), Rel K β H d v → Rel K β' H' d v
  | .non, _, x => by simpa [Rel] using x
  | .bl _, _, x => by simpa [Rel] using x
  | .int _, _, x => by simpa [Rel] using x
  | .str _, _, x => by simpa [Rel] using x
  | .tup ds, v, x => by
    simp only [Rel] at x ⊢
    obtain ⟨a, vs, e, s, r⟩ := x
    exact ⟨a, vs, e, k.tup a vs s, Rels.mono k ds vs r⟩
  | .ktup ds, v, x => by
    simp only [Rel] at x ⊢
    obtain ⟨a, vs, e, s, r⟩ := x
    exact ⟨a, vs, e, s, Rels.mono k ds vs r⟩
  | .rol ds, v, x => by
    simp only [Rel] at x ⊢
    obtain ⟨a, vs, e, s, r⟩ := x
    exact ⟨a, vs, e, k.rol a vs s, Rels.mono k ds vs r⟩
  | .ref n, v, x => by
    simp only [Rel] at x ⊢
    obtain ⟨a, e, s⟩ := x
    exact ⟨a, e, k.ix n a s⟩
theorem Rels.mono (k : Kp K β H β' H') : ∀ (ds : List D) (vs : List V), Rels K β H ds vs → Rels K β' H' ds vs
  | [], _, x => by simpa [Rels] using x
  | d :: ds, vs, x => by
    simp only [Rels] at x ⊢
    obtain ⟨v, r, e, x1, x2⟩ := x
    exact ⟨v, r, e, Rel.mono k d v x1, Rels.mono k ds r x2⟩
end
theorem kvR.mono (k : Kp K β H β' H') : ∀ (kvs : List (D × D)) (l : List (Key × V)), kvR K β H kvs l → kvR K β' H' kvs l
  | [], _, x => x
  | (d, e) :: r, l, x => by
    obtain ⟨q, v, t, e1, e2, e3, e4⟩ := x
    exact ⟨q, v, t, e1, e2, e3.mono k _ _, kvR.mono k r t e4⟩
theorem kvT.mono (k : Kp K β H β' H') : ∀ (kvs : List (D × D)) (l : List (List Key × V)), kvT K β H kvs l → kvT K β' H' kvs l
  | [], _, x => x
  | (d, e) :: r, l, x => by
    obtain ⟨q, v, t, e1, e2, e3, e4⟩ := x
    exact ⟨q, v, t, e1, e2, e3.mono k _ _, kvT.mono k r t e4⟩
/-- an object whose own record is kept -/
theorem ObjR.mono (k : Kp K β H β' H') {o : O} {a : Addr} (e : ∀ ob, H a = some ob → H' a = some ob) (x : ObjR K β H o a) : ObjR K β' H' o a := by
  cases o with
  | lst ds => obtain ⟨vs, q, r⟩ := x; exact ⟨vs, e _ q, r.mono k _ _⟩
  | dk kvs => obtain ⟨l, q, r⟩ := x; exact ⟨l, e _ q, r.mono k _ _⟩
  | dt kvs => obtain ⟨l, q, r⟩ := x; exact ⟨l, e _ q, r.mono k _ _⟩
/-- a temporary is kept: its object is not among those that may be written -/
theorem RelR.mono (k : Kp K β H β' H') {r : Rv} {v : V} {F : List Addr} (e : ∀ a ∈ F, ∀ ob, H a = some ob → H' a = some ob) (x : RelR K β H r v F) : RelR K β' H' r v F := by
  cases r with
  | val d => exact ⟨x.1, x.2.mono k _ _⟩
  | new o =>
    obtain ⟨a, e1, e2, e3⟩ := x
    exact ⟨a, e1, e2, e3.mono k (e a (by rw [e2]; simp))⟩
theorem RelRs.mono (k : Kp K β H β' H') : ∀ {rs : List Rv} {vs : List V} {F : List Addr}, (∀ a ∈ F, ∀ ob, H a = some ob → H' a = some ob) → RelRs K β H rs vs F → RelRs K β' H' rs vs F
  | [], _, _, _, x => x
  | r :: rs, vs, F, e, x => by
    obtain ⟨v, t, F1, F2, e1, e2, x1, x2⟩ := x
    subst e2
    exact ⟨v, t, F1, F2, e1, rfl, x1.mono k fun a m => e a (by simp [m]), x2.mono k fun a m => e a (by simp [m])⟩
theorem EnvOk.mono {σ : St} {ρ : Env} (k : Kp K β H β' H') (x : EnvOk K β H σ ρ) : EnvOk K β' H' σ ρ := ⟨x.len, fun i d e => by
  obtain ⟨v, e1, r⟩ := x.env i d e
  exact ⟨v, e1, r.mono k _ _⟩⟩
theorem EnvOk.set {σ : St} {ρ : Env} {i : Nat} {d : D} {v : V} (x : EnvOk K β H σ ρ) (r : Rel K β H d v) : EnvOk K β H (σ.set i (some v)) (ρ.set i (some d)) := by
  refine ⟨by simp [x.len], fun j e hj => ?_⟩
  by_cases hij : i = j
  · subst hij
    rw [List.getElem?_set] at hj
    simp only [if_true] at hj
    split at hj
    · rename_i hl
      cases hj
      rw [x.len] at hl
      exact ⟨v, by rw [List.getElem?_set_self hl], r⟩
    · cases hj
  · rw [List.getElem?_set_ne hij] at hj
    obtain ⟨u, e1, q⟩ := x.env j e hj
    exact ⟨u, by rw [List.getElem?_set_ne hij]; exact e1, q⟩
end
/-! ### lists of data -/
section
variable {K : Frag} {β : List Addr} {H : AHp}
theorem Rels.length : ∀ {ds : List D} {vs : List V}, Rels K β H ds vs → ds.length = vs.length
  | [], _, x => by simp only [Rels] at x; rw [x]; rfl
  | d :: ds, vs, x => by
    simp only [Rels] at x
    obtain ⟨v, r, e, _, x2⟩ := x
    rw [e, List.length_cons, List.length_cons, Rels.length x2]
theorem Rels.nil : Rels K β H [] [] := by simp [Rels]
theorem Rels.cons {d : D} {v : V} {ds : List D} {vs : List V} (x : Rel K β H d v) (y : Rels K β H ds vs) : Rels K β H (d :: ds) (v :: vs) := by
  simp only [Rels]; exact ⟨v, vs, rfl, x, y⟩
theorem Rels.append : ∀ {ds es : List D} {vs us : List V}, Rels K β H ds vs → Rels K β H es us → Rels K β H (ds ++ es) (vs ++ us)
  | [], _, _, _, x, y => by simp only [Rels] at x; subst x; simpa using y
  | d :: ds, es, vs, us, x, y => by
    simp only [Rels] at x
    obtain ⟨v, r, e, x1, x2⟩ := x
    subst e
    exact Rels.cons x1 (Rels.append x2 y)
theorem Rels.get : ∀ {ds : List D} {vs : List V} {i : Nat} {d : D}, Rels K β H ds vs → ds[i]? = some d → ∃ v, vs[i]? = some v ∧ Rel K β H d v
  | [], _, _, _, _, e => by simp at e
  | d :: ds, vs, 0, d', x, e => by
    simp only [Rels] at x
    obtain ⟨v, r, q, x1, x2⟩ := x
    subst q
    simp at e
    subst e
    exact ⟨v, rfl, x1⟩
  | d :: ds, vs, i + 1, d', x, e => by
    simp only [Rels] at x
    obtain ⟨v, r, q, x1, x2⟩ := x
    subst q
    obtain ⟨u, e1, e2⟩ := Rels.get (i := i) x2 (by simpa using e)
    exact ⟨u, by simpa using e1, e2⟩
theorem Rels.take : ∀ {ds : List D} {vs : List V} (n : Nat), Rels K β H ds vs → Rels K β H (ds.take n) (vs.take n)
  | [], vs, n, x => by simp only [Rels] at x; subst x; simpa using Rels.nil
  | d :: ds, vs, 0, x => by simpa using Rels.nil
  | d :: ds, vs, n + 1, x => by
    simp only [Rels] at x
    obtain ⟨v, r, q, x1, x2⟩ := x
    subst q
    exact Rels.cons x1 (Rels.take n x2)
theorem Rels.drop : ∀ {ds : List D} {vs : List V} (n : Nat), Rels K β H ds vs → Rels K β H (ds.drop n) (vs.drop n)
  | [], vs, n, x => by simp only [Rels] at x; subst x; simpa using Rels.nil
  | d :: ds, vs, 0, x => by simpa using x
  | d :: ds, vs, n + 1, x => by
    simp only [Rels] at x
    obtain ⟨v, r, q, x1, x2⟩ := x
    subst q
    exact Rels.drop n x2
theorem Rels.reverse : ∀ {ds : List D} {vs : List V}, Rels K β H ds vs → Rels K β H ds.reverse vs.reverse
  | [], vs, x => by simp only [Rels] at x; subst x; simpa using Rels.nil
  | d :: ds, vs, x => by
    simp only [Rels] at x
    obtain ⟨v, r, q, x1, x2⟩ := x
    subst q
    rw [List.reverse_cons, List.reverse_cons]
    exact Rels.append (Rels.reverse x2) (Rels.cons x1 Rels.nil)
theorem Rels.set : ∀ {ds : List D} {vs : List V} (i : Nat) {d : D} {v : V}, Rels K β H ds vs → Rel K β H d v → Rels K β H (ds.set i d) (vs.set i v)
  | [], vs, i, _, _, x, y => by simp only [Rels] at x; subst x; simpa using Rels.nil
  | d :: ds, vs, 0, _, _, x, y => by
    simp only [Rels] at x
    obtain ⟨v, r, q, x1, x2⟩ := x
    subst q
    exact Rels.cons y x2
  | d :: ds, vs, i + 1, _, _, x, y => by
    simp only [Rels] at x
    obtain ⟨v, r, q, x1, x2⟩ := x
    subst q
    exact Rels.cons x1 (Rels.set i x2 y)
theorem Rels.rep {ds : List D} {vs : List V} (x : Rels K β H ds vs) : ∀ n, Rels K β H (List.replicate n ds).flatten (List.replicate n vs).flatten
  | 0 => by simpa using Rels.nil
  | n + 1 => by
    rw [List.replicate_succ, List.replicate_succ, List.flatten_cons, List.flatten_cons]
    exact Rels.append x (Rels.rep x n)
theorem ixN_eq (n : Nat) (i : Int) : G.ixN n i = L2.ixN n i := rfl
theorem Rels.atI {ds : List D} {vs : List V} {i : Int} {d : D} (x : Rels K β H ds vs) (e : G.atI ds i = some d) : ∃ v, L2.atI vs i = some v ∧ Rel K β H d v := by
  unfold G.atI at e
  unfold L2.atI
  rw [← x.length]
  rw [ixN_eq] at e
  cases q : L2.ixN ds.length i with
  | none => rw [q] at e; cases e
  | some j =>
    rw [q] at e
    exact Rels.get x (by simpa using e)
theorem sIx_eq (n d : Nat) (o : Option Int) : G.sIx n d o = HT.sIx n d o := by
  cases o <;> rfl
theorem Rels.cut {ds : List D} {vs : List V} (lo hi : Option Int) (x : Rels K β H ds vs) : Rels K β H (G.cut ds lo hi) (cutV vs lo hi) := by
  unfold G.cut cutV
  rw [sIx_eq, sIx_eq, ← x.length]
  exact Rels.take _ (Rels.drop _ x)
end
end G

/-! G2: what is left behind an evaluation; operators. -/
namespace G
open PySem PySem.Spec L2
section
variable {X : Cx}
theorem imE {e : Expr} {t t' : TE} (h : PE X e t) (i : ∀ σ H Q, t' σ H Q → t σ H Q) : PE X e t' := ⟨fun pins s σ H Q I q => h.run pins s σ H Q I (i σ H Q q)⟩
theorem imT {e : Expr} {t t' : TT} (h : PT X e t) (i : ∀ σ H Q, t' σ H Q → t σ H Q) : PT X e t' := ⟨fun pins s σ H Q I q => h.run pins s σ H Q I (i σ H Q q)⟩
theorem imW {e : Expr} {t t' : TT} (h : PW X e t) (i : ∀ σ H Q, t' σ H Q → t σ H Q) : PW X e t' := ⟨fun wh pins s σ H Q I q => h.run wh pins s σ H Q I (i σ H Q q)⟩
theorem imA {es : List Expr} {t t' : TA} (h : PA X es t) (i : ∀ σ H Q, t' σ H Q → t σ H Q) : PA X es t' := ⟨fun pos pins s σ H Q I q => h.run pos pins s σ H Q I (i σ H Q q)⟩
theorem imS {st : Stmt} {t t' : TS} (h : PS X st t) (i : ∀ D σ H, t' D σ H → t D σ H) : PS X st t' := ⟨fun pins s σ H D I q => h.run pins s σ H D I (i D σ H q)⟩
theorem imSs {st : List Stmt} {t t' : TS} (h : PSs X st t) (i : ∀ D σ H, t' D σ H → t D σ H) : PSs X st t' := ⟨fun pins s σ H D I q => h.run pins s σ H D I (i D σ H q)⟩
theorem imI {tg e : Expr} {t t' : TI} (h : PI X tg e t) (i : ∀ σ H R, t' σ H R → t σ H R) : PI X tg e t' := ⟨fun pins s σ H R I q => h.run pins s σ H R I (i σ H R q)⟩
end
section
variable {K : Frag} {β β' β2 : List Addr} {H H' H2 : AHp} {h : Hp} {p : Addr} {ob : HO}
theorem HpOk.notin (ok : HpOk K β H h) (e : H p = none) : p ∉ β := fun m => ok.some m e
theorem Ext.none (x : Ext β H β' H') (ok : HpOk K β' H' h) (e : H' p = Option.none) : H p = Option.none := by
  cases q : H p with
  | none => rfl
  | some o =>
    have nb : p ∉ β := fun m => by
      obtain ⟨l, e2⟩ := x.pre
      exact ok.some (a := p) (by rw [e2]; simp [m]) e
    rw [x.fr p o q nb] at e
    cases e
theorem Ext.new (e : H p = Option.none) : Ext β H β (upd H p ob) :=
  ⟨fun a o q _ => by rw [upd_ne (ne_of_none q e)]; exact q, fun a m => .inl m, ⟨[], by simp⟩⟩
theorem HpOk.new (ok : HpOk K β H h) (e : H p = Option.none) : HpOk K β (upd H p ob) h :=
  ⟨ok.len, ok.nd, fun n o q => by
    obtain ⟨a, e1, r⟩ := ok.obj n o q
    exact ⟨a, e1, r.mono (Kp.of ok (Ext.new e)) fun o2 q2 => by rw [upd_ne (ne_of_none q2 e)]; exact q2⟩⟩
/-- new objects are taken into the heap -/
theorem HpOk.push {o : O} {a : Addr} (ok : HpOk K β H h) (r : ObjR K β H o a) (n : a ∉ β) : HpOk K (β ++ [a]) H (h ++ [o]) := by
  have k : Kp K β H (β ++ [a]) H := ⟨fun _ _ x => x, fun _ _ x => x, fun n b e => by rw [List.getElem?_append_left (List.getElem?_eq_some_iff.mp e).1]; exact e⟩
  refine ⟨by simp [ok.len], ?_, fun m q e => ?_⟩
  · rw [List.nodup_append]
    exact ⟨ok.nd, by simp, fun b hb c hc => by simp at hc; subst hc; exact fun z => n (z ▸ hb)⟩
  · by_cases hm : m < h.length
    · rw [List.getElem?_append_left hm] at e
      obtain ⟨b, e1, x⟩ := ok.obj m q e
      exact ⟨b, k.ix m b e1, x.mono k fun _ z => z⟩
    · rw [List.getElem?_append_right (by omega)] at e
      have hm2 : m - h.length = 0 := by
        cases q2 : m - h.length with
        | zero => rfl
        | succ j => rw [q2] at e; simp at e
      rw [hm2] at e
      simp at e
      subst e
      refine ⟨a, ?_, r.mono k fun _ z => z⟩
      rw [List.getElem?_append_right (by rw [ok.len]; omega), ok.len, hm2]
      rfl
theorem Kp.push {a : Addr} : Kp K β H (β ++ [a]) H := ⟨fun _ _ x => x, fun _ _ x => x, fun n b e => by rw [List.getElem?_append_left (List.getElem?_eq_some_iff.mp e).1]; exact e⟩
/-- an object of the heap is written -/
theorem HpOk.write {n : Nat} {a : Addr} {o o' : O} (ok : HpOk K β H h) (ho : h[n]? = Option.some o) (ha : β[n]? = Option.some a) (hob : (∃ vs, ob = .lst vs) ∨ (∃ l, ob = .dK l) ∨ ∃ l, ob = .dT l) (r : ObjR K β (upd H a ob) o' a) : HpOk K β (upd H a ob) (h.set n o') ∧ Kp K β H β (upd H a ob) ∧ Ext β H β (upd H a ob) := by
  have ma : a ∈ β := List.mem_of_getElem? ha
  have x : Ext β H β (upd H a ob) := ⟨fun b q e nb => by rw [upd_ne (show b ≠ a from fun z => nb (by rw [z]; exact ma))]; exact e, fun b m => .inl m, ⟨[], by simp⟩⟩
  have k := Kp.of ok x
  refine ⟨⟨by simp [ok.len], ok.nd, fun m q e => ?_⟩, k, x⟩
  by_cases hm : n = m
  · subst hm
    have hl : n < h.length := (List.getElem?_eq_some_iff.mp ho).1
    rw [List.getElem?_set_self hl] at e
    cases e
    exact ⟨a, ha, r⟩
  · rw [List.getElem?_set_ne hm] at e
    obtain ⟨b, e1, y⟩ := ok.obj m q e
    refine ⟨b, e1, y.mono k fun o2 q2 => ?_⟩
    rw [upd_ne fun z => ?_]
    · exact q2
    · subst z
      exact hm (by
        obtain ⟨h1, e2⟩ := List.getElem?_eq_some_iff.mp ha
        obtain ⟨h2, e3⟩ := List.getElem?_eq_some_iff.mp e1
        exact (List.getElem_inj ok.nd).mp (e2.trans e3.symm))
end
/-! ### what is wanted behind an expression -/
def PostR (K : Frag) (β : List Addr) (H : AHp) (h' : Hp) (r : Rv) (Q : VK) : Prop :=
  ∀ v H' β' F, HpOk K β' H' h' → Ext β H β' H' → RelR K β' H' r v F → (∀ a ∈ F, a ∉ β' ∧ H a = none) → Q v H'
def PostB (K : Frag) (β : List Addr) (H : AHp) (h' : Hp) (Q : AHp → Prop) : Prop :=
  ∀ H' β', HpOk K β' H' h' → Ext β H β' H' → Q H'
section
variable {K : Frag} {β β1 : List Addr} {H H1 : AHp} {h' : Hp} {r : Rv} {Q : VK}
theorem PostR.later {h0 : Hp} (ok : HpOk K β1 H1 h0) (x : Ext β H β1 H1) (p : PostR K β H h' r Q) : PostR K β1 H1 h' r Q :=
  fun v H' β' F ok' x' rr f => p v H' β' F ok' (x.trans x') rr fun a m => ⟨(f a m).1, x.none ok (f a m).2⟩
theorem PostR.val {d : D} {v : V} (ok : HpOk K β1 H1 h') (x : Ext β H β1 H1) (p : PostR K β H h' (.val d) Q) (q : Rel K β1 H1 d v) : Q v H1 :=
  p v H1 β1 [] ok x ⟨rfl, q⟩ (fun _ m => nomatch m)
theorem PostR.newL {ds : List D} {vs : List V} {a : Addr} (ok : HpOk K β1 H1 h') (x : Ext β H β1 H1) (p : PostR K β H h' (.new (.lst ds)) Q) (e : H1 a = none) (q : Rels K β1 H1 ds vs) : Q (.ref a) (upd H1 a (.lst vs)) := by
  have y : Ext β1 H1 β1 (upd H1 a (.lst vs)) := Ext.new e
  exact p (.ref a) _ β1 [a] (ok.new e) (x.trans y) ⟨a, rfl, rfl, vs, upd_same, q.mono (Kp.of ok y) _ _⟩ fun b m => by
    simp at m
    subst m
    exact ⟨ok.notin e, x.none ok e⟩
end
theorem bind_ok {α γ : Type} {r : R α} {f : α → Hp → R γ} {c : γ} {h' : Hp} (e : r.bind f = .ok c h') : ∃ a h1, r = .ok a h1 ∧ f a h1 = .ok c h' := by
  cases r with
  | ok a h1 => exact ⟨a, h1, rfl, e⟩
  | exc c ds h => cases e
  | bad => cases e
theorem bind_exc {α γ : Type} {r : R α} {f : α → Hp → R γ} {c : Nat} {ds : List D} {h' : Hp} (e : r.bind f = .exc c ds h') : r = .exc c ds h' ∨ ∃ a h1, r = .ok a h1 ∧ f a h1 = .exc c ds h' := by
  cases r with
  | ok a h1 => exact .inr ⟨a, h1, rfl, e⟩
  | exc c ds h => cases e; exact .inl rfl
  | bad => cases e
theorem when_exc {α : Type} {b : Bool} {h h' : Hp} {a : α} {c : Nat} {ds : List D} : when_ b h a ≠ .exc c ds h' := by
  cases b <;> (intro e; cases e)
theorem opt_exc {α : Type} {o : Option α} {h h' : Hp} {c : Nat} {ds : List D} : opt h o ≠ .exc c ds h' := by
  cases o <;> (intro e; cases e)
theorem boolR_exc {o : Option Bool} {h h' : Hp} {c : Nat} {ds : List D} : boolR h o ≠ .exc c ds h' := by
  cases o <;> (intro e; cases e)
theorem when_ok {α : Type} {b : Bool} {h h' : Hp} {a a' : α} (e : when_ b h a = .ok a' h') : b = true ∧ a' = a ∧ h' = h := by
  cases b with
  | true => cases e; exact ⟨rfl, rfl, rfl⟩
  | false => cases e
theorem opt_ok {α : Type} {o : Option α} {h h' : Hp} {a : α} (e : opt h o = .ok a h') : o = some a ∧ h' = h := by
  cases o with
  | none => cases e
  | some b => cases e; exact ⟨rfl, rfl⟩
theorem boolR_ok {o : Option Bool} {h h' : Hp} {r : Rv} (e : boolR h o = .ok r h') : ∃ b, o = some b ∧ r = .val (.bl b) ∧ h' = h := by
  cases o with
  | none => cases e
  | some b => cases e; exact ⟨b, rfl, rfl, rfl⟩
theorem lim_eq : lim = sizeLine := by rw [sizeLine_eq]; rfl
end G

/-! G3: readings of the evaluator; expressions without calls. -/
namespace G
open PySem PySem.Spec L2
section
variable (C : Nat → List D → Hp → R Rv) (K : Frag)
def tE (e : E) : TE := fun σ H Q => ∃ β ρ h r h', EnvOk K β H σ ρ ∧ HpOk K β H h ∧ ev C e ρ h = .ok r h' ∧ PostR K β H h' r Q
def tT (e : E) : TT := fun σ H Q => ∃ β ρ h b h', EnvOk K β H σ ρ ∧ HpOk K β H h ∧ tst C e ρ h = .ok b h' ∧ PostB K β H h' (Q b)
def tA (es : Es) : TA := fun σ H Q => ∃ β ρ h rs h', EnvOk K β H σ ρ ∧ HpOk K β H h ∧ evs C es ρ h = .ok rs h' ∧
  ∀ vs H' β' F, HpOk K β' H' h' → Ext β H β' H' → RelRs K β' H' rs vs F → F.Nodup → (∀ a ∈ F, a ∉ β' ∧ H a = none) → Q vs H'
end
section
variable {C : Nat → List D → Hp → R Rv} {K : Frag} {σ : St} {ρ : Env} {β : List Addr} {H : AHp} {h h1 h2 h' : Hp} {r r1 r2 : Rv} {Q : VK} {X : Cx}
/-- one expression, then on -/
theorem oneE {e : E} {k : V → AHp → Prop} (ee : EnvOk K β H σ ρ) (ok : HpOk K β H h) (ev1 : ev C e ρ h = .ok r h1)
    (q : ∀ v H1 β1 F, HpOk K β1 H1 h1 → EnvOk K β1 H1 σ ρ → Ext β H β1 H1 → RelR K β1 H1 r v F → (∀ a ∈ F, a ∉ β1 ∧ H a = none) → k v H1) : tE C K e σ H k :=
  ⟨β, ρ, h, r, h1, ee, ok, ev1, fun v H1 β1 F ok1 x rr f => q v H1 β1 F ok1 (ee.mono (Kp.of ok x)) x rr f⟩
/-- a temporary stays while another expression is read -/
theorem RelR.stay {β1 β2 : List Addr} {H1 H2 : AHp} {v : V} {F : List Addr} (ok : HpOk K β1 H1 h1) (x : Ext β1 H1 β2 H2) (f : ∀ a ∈ F, a ∉ β1) (rr : RelR K β1 H1 r v F) : RelR K β2 H2 r v F :=
  rr.mono (Kp.of ok x) fun a m o e => x.fr a o e (f a m)
theorem RelR.some {v : V} {F : List Addr} (rr : RelR K β H r v F) : ∀ a ∈ F, H a ≠ none := by
  cases r with
  | val d => intro a m; rw [rr.1] at m; cases m
  | new o =>
    obtain ⟨a, _, e, ob⟩ := rr
    intro b m
    rw [e] at m
    simp at m
    subst m
    rcases ob.mut with ⟨_, q⟩ | ⟨_, q⟩ | ⟨_, q⟩ <;> rw [q] <;> simp
theorem twoE {a b : E} {k : V → V → AHp → Prop} (ee : EnvOk K β H σ ρ) (ok : HpOk K β H h) (e1 : ev C a ρ h = .ok r1 h1) (e2 : ev C b ρ h1 = .ok r2 h2)
    (q : ∀ v1 v2 H2 β2 F1 F2, HpOk K β2 H2 h2 → EnvOk K β2 H2 σ ρ → Ext β H β2 H2 → RelR K β2 H2 r1 v1 F1 → RelR K β2 H2 r2 v2 F2 →
      (∀ a ∈ F1 ++ F2, a ∉ β2 ∧ H a = none) → (F1 ++ F2).Nodup → k v1 v2 H2) : tE C K a σ H fun v1 H1 => tE C K b σ H1 fun v2 H2 => k v1 v2 H2 := by
  refine oneE ee ok e1 fun v1 H1 β1 F1 ok1 ee1 x1 rr1 f1 => ?_
  refine oneE ee1 ok1 e2 fun v2 H2 β2 F2 ok2 ee2 x2 rr2 f2 => ?_
  have s1 := rr1.some
  have g1 : ∀ a ∈ F1, a ∉ β2 := fun a m mb => by
    rcases x2.nw a mb with z | z
    · exact (f1 a m).1 z
    · exact s1 a m z
  refine q v1 v2 H2 β2 F1 F2 ok2 ee2 (x1.trans x2) (rr1.stay ok1 x2 fun a m => (f1 a m).1) rr2 (fun a m => ?_) ?_
  · rcases List.mem_append.mp m with m | m
    · exact ⟨g1 a m, (f1 a m).2⟩
    · exact ⟨(f2 a m).1, x1.none ok1 (f2 a m).2⟩
  · rw [List.nodup_append]
    refine ⟨?_, ?_, fun a m b m2 z => ?_⟩
    · cases r1 with
      | val d => rw [rr1.1]; exact List.nodup_nil
      | new o => obtain ⟨a, _, e, _⟩ := rr1; rw [e]; simp
    · cases r2 with
      | val d => rw [rr2.1]; exact List.nodup_nil
      | new o => obtain ⟨a, _, e, _⟩ := rr2; rw [e]; simp
    · subst z
      exact s1 a m (f2 a m2).2
theorem Rel.valOf {d : D} {v : V} {F : List Addr} (rr : RelR K β H (.val d) v F) : Rel K β H d v := rr.2
theorem Rel.int {i : Int} {v : V} {F : List Addr} (rr : RelR K β H (.val (.int i)) v F) : v = .int i := by have := rr.2; simpa [Rel] using this
theorem Rel.str {s : List Nat} {v : V} {F : List Addr} (rr : RelR K β H (.val (.str s)) v F) : v = .str (tx s) := by have := rr.2; simpa [Rel] using this
theorem Rel.bl {b : Bool} {v : V} {F : List Addr} (rr : RelR K β H (.val (.bl b)) v F) : v = .bl b := by have := rr.2; simpa [Rel] using this
theorem Rel.non {v : V} {F : List Addr} (rr : RelR K β H (.val .non) v F) : v = .non := by have := rr.2; simpa [Rel] using this
theorem Rel.tup {ds : List D} {v : V} {F : List Addr} (rr : RelR K β H (.val (.tup ds)) v F) : ∃ a vs, v = .ref a ∧ H a = some (.tup vs) ∧ Rels K β H ds vs := by have := rr.2; simpa [Rel] using this
theorem kt_sq {a : Addr} {vs : List V} (s : SqT K (fun _ => none) a vs) : SqT K H a vs := by
  rcases s with (e | ⟨o, e⟩) | s
  · cases e
  · cases e
  · exact .inr s
theorem Rel.ktup {ds : List D} {v : V} {F : List Addr} (rr : RelR K β H (.val (.ktup ds)) v F) : ∃ a vs, v = .ref a ∧ SqT K H a vs ∧ Rels K β H ds vs := by
  have q := rr.2
  simp only [Rel] at q
  obtain ⟨a, vs, e, s, r⟩ := q
  exact ⟨a, vs, e, kt_sq s, r⟩
theorem Rel.rol {ds : List D} {v : V} {F : List Addr} (rr : RelR K β H (.val (.rol ds)) v F) : ∃ a vs, v = .ref a ∧ SqR K H a vs ∧ Rels K β H ds vs := by have := rr.2; simpa [Rel] using this
theorem mkInt (i : Int) : Rel K β H (.int i) (.int i) := by simp [Rel]
theorem mkBl (b : Bool) : Rel K β H (.bl b) (.bl b) := by simp [Rel]
theorem mkStr (s : List Nat) : Rel K β H (.str s) (.str (tx s)) := by simp [Rel]
theorem mkNon : Rel K β H .non .non := by simp [Rel]
theorem mkTup {ds : List D} {a : Addr} {vs : List V} (s : H a = some (.tup vs)) (r : Rels K β H ds vs) : Rel K β H (.tup ds) (.ref a) := by
  simp only [Rel]; exact ⟨a, vs, rfl, s, r⟩
/-- an object by its value -/
theorem objOf_ok {o : O} {v : V} {F : List Addr} (ok : HpOk K β H h) (rr : RelR K β H r v F) (e : objOf h r = some o) : ∃ a, v = .ref a ∧ ObjR K β H o a := by
  cases r with
  | new p =>
    cases e
    obtain ⟨a, e1, _, ob⟩ := rr
    exact ⟨a, e1, ob⟩
  | val d =>
    cases d with
    | ref n =>
      have q := rr.2
      simp only [Rel] at q
      obtain ⟨a, e1, e2⟩ := q
      obtain ⟨b, e3, ob⟩ := ok.obj n o e
      rw [e2] at e3
      cases e3
      exact ⟨a, e1, ob⟩
    | _ => cases e
theorem lstOf_ok {xs : List D} {v : V} {F : List Addr} (ok : HpOk K β H h) (rr : RelR K β H r v F) (e : lstOf h r = some xs) : ∃ a vs, v = .ref a ∧ SqL K H a vs ∧ Rels K β H xs vs := by
  unfold lstOf at e
  split at e
  · cases e
    obtain ⟨a, vs, e1, s, q⟩ := Rel.rol rr
    exact ⟨a, vs, e1, s.sq, q⟩
  · cases q : objOf h r with
    | none => rw [q] at e; cases e
    | some o =>
      rw [q] at e
      cases o with
      | lst ds =>
        cases e
        obtain ⟨a, e1, vs, e2, x⟩ := objOf_ok ok rr q
        exact ⟨a, vs, e1, SqL.of e2, x⟩
      | dk _ => cases e
      | dt _ => cases e
theorem sizeT {pins : List (Addr × Obj)} {s : Shared} {σ' : St} {a : Addr} {vs : List V} (I : Inv X pins σ' H s) (q : SqT X.K H a vs) : vs.length ≤ sizeLine := by
  obtain ⟨_, _, _, z⟩ := I.tuple q; exact z

/-! ### constants, names -/
theorem s_int {i : Int} {j : Nat} {pos : Pos} : PE X (.Constant (.int i) j pos) (tE C X.K (.c (.int i))) := imE pe_int fun σ H Q q => by
  obtain ⟨β, ρ, h, r, h', ee, ok, e, p⟩ := q
  simp only [ev] at e
  cases e
  exact p.val ok Ext.refl (mkInt i)
theorem s_bl {b : Bool} {j : Nat} {pos : Pos} : PE X (.Constant (.bool b) j pos) (tE C X.K (.c (.bl b))) := imE pe_bl fun σ H Q q => by
  obtain ⟨β, ρ, h, r, h', ee, ok, e, p⟩ := q
  simp only [ev] at e
  cases e
  exact p.val ok Ext.refl (mkBl b)
theorem s_non {j : Nat} {pos : Pos} : PE X (.Constant .none j pos) (tE C X.K (.c .non)) := imE pe_non fun σ H Q q => by
  obtain ⟨β, ρ, h, r, h', ee, ok, e, p⟩ := q
  simp only [ev] at e
  cases e
  exact p.val ok Ext.refl mkNon
theorem s_str {s : List Nat} {x : Str} {j : Nat} {pos : Pos} (hx : x = tx s) : PE X (.Constant (.str x) j pos) (tE C X.K (.c (.str s))) := imE pe_str fun σ H Q q => by
  obtain ⟨β, ρ, h, r, h', ee, ok, e, p⟩ := q
  simp only [ev] at e
  cases e
  rw [hx]
  exact p.val ok Ext.refl (mkStr s)
theorem s_var {i : Nat} {x : Str} {pos : Pos} (hN : X.N[i]? = some x) (hv : Vis X.env.scope x) (hd : (x == ("__debug__" : Str)) = false) (hcd : (x == ("__classdict__" : Str)) = false) : PE X (.Name x pos) (tE C X.K (.var i)) := imE (pe_var hN hv hd hcd) fun σ H Q q => by
  obtain ⟨β, ρ, h, r, h', ee, ok, e, p⟩ := q
  simp only [ev] at e
  split at e
  · rename_i d hd
    cases e
    obtain ⟨v, e1, rr⟩ := ee.env i d hd
    exact ⟨v, e1, p.val ok Ext.refl rr⟩
  · cases e
/-- a constant of the module -/
def GlbOk (K : Frag) (mg : Str → Option Value) (x : Str) (d : D) : Prop := ∃ u v, mg x = some u ∧ RelV v u ∧ ∀ β H, Rel K β H d v
theorem s_glb {n : Nat} {d : D} {x : Str} {pos : Pos} (hg : Gl X x) (g : GlbOk X.K X.mg x d) (hd : (x == ("__debug__" : Str)) = false) : PE X (.Name x pos) (tE C X.K (.glb n d)) := by
  obtain ⟨u, v, e1, r, q⟩ := g
  refine imE (pe_glob hg e1 r hd) fun σ H Q z => ?_
  obtain ⟨β, ρ, h, r, h', ee, ok, e, p⟩ := z
  simp only [ev] at e
  cases e
  exact p.val ok Ext.refl (q β H)

/-! ### operators -/
def rAddX (K : Frag) : R2 := fun x y H Q => (rI0 (fun i j => .int (i + j)) x y H Q ∨ (∃ i j, x = .str i ∧ y = .str j ∧ i.length + j.length ≤ sizeLine ∧ Q (.str (i ++ j)) H)) ∨ (rCatA K x y H Q ∨ rCat x y H Q)
theorem op_addX : OpR X (binaryOp .Add) (rAddX X.K) := OpR.or (OpR.or op_add op_add_str) (OpR.or op_catA op_cat)
theorem tuple_mul1 (l : Addr) (items : Array Value) (n : Nat) (dd : Option Addr) (sl : Array (Option Value)) (u : Tok) :
    Meets (Builtin.«tuple.__mul__» ⟨[.ref l, .int 1 u], []⟩) (fun _ R s => s.heap.get? l = some { cls := .type "tuple", dict := dd, data := .seq items n, slots := sl } ∧ R (.ok (.ret (Value.ref l))) s) :=
  .of_wp fun prog w A R s h => by
    obtain ⟨hp, g, d, tk, os⟩ := s
    obtain ⟨hl, h⟩ := h
    have f1 := AutoSeq1.idx_int
    have c1 : (items.isEmpty || (1 : Int) == 1) = true := by simp
    wp_walk using wpAny_loadPart' hl
    repeat (first
      | (refine wpAny_ite_false (decide_eq_false (by decide)) ?_; wp_walk using wpAny_loadPart' hl)
      | (refine wpAny_ite_true (decide_eq_true c1) ?_; wp_walk using wpAny_loadPart' hl))
    exact ⟨_, rfl, h⟩
/-- a tuple once is that tuple -/
def rOnceT (K : Frag) : R2 := fun x y H Q => ∃ l xs, x = .ref l ∧ y = .int 1 ∧ SqT K H l xs ∧ Q (.ref l) H
theorem op_onceT : OpR X (binaryOp .Mult) (rOnceT X.K) := by
  intro pins s σ H x y v u Q I rx ry h
  obtain ⟨l, xs, rfl, rfl, hT, q⟩ := h
  cases rx
  obtain ⟨t, rfl⟩ := ry
  obtain ⟨its, r, ⟨⟨cls, dd, data, sl⟩, ho, hc, n, hd⟩, hs⟩ := I.tuple hT
  simp only at hc hd
  subst hc hd
  refine wpAny_binaryOp_repeat_ref (T := "tuple") (U := "int") (by decide) ⟨_, ho, rfl⟩ (fun s' => typeIs_int s' 1 t) noFill_tuple_mul F.fills_int_mul F.slot_int_rmul repeat_tuple F.slot_int_index.lookup
    (call_meets F.slot_int_rmul (typeIs_int s 1 t) F.entry_int_rmul (F.args_int_rmul_2 _ _) (int_rmul_tuple 1 t l its.toArray n dd sl)
      ⟨ho, rfl, ⟨_, ho, rfl⟩, call_meets F.slot_tuple_mul ⟨_, ho, rfl⟩ F.entry_tuple_mul (F.args_tuple_mul_2 _ _) (tuple_mul1 l its.toArray n dd sl t) ⟨ho, ?_⟩⟩)
  exact ⟨.ref l, H, I, rfl, q⟩
/-- a text so often -/
def rRepS : R2 := fun x y H Q => ∃ (z : List Nat) (n : Int), x = .str (tx z) ∧ y = .int n ∧ (-(2 ^ 62) ≤ n ∧ n < 2 ^ 62 ∧ z.length * n.toNat ≤ 16777216) ∧ Q (.str (tx (List.replicate n.toNat z).flatten)) H
theorem cps_rep (z : List Nat) : ∀ (n : Nat) (a : Array Nat), (List.replicate n z.toArray).foldl (· ++ ·) a = (a.toList ++ (List.replicate n z).flatten).toArray
  | 0, a => by simp
  | n + 1, a => by
    rw [List.replicate_succ, List.foldl_cons, cps_rep z n, List.replicate_succ, List.flatten_cons]
    simp
theorem op_repS : OpR X (binaryOp .Mult) rRepS := by
  intro pins s σ H x y v u Q I rx ry h
  obtain ⟨z, n, rfl, rfl, ⟨b1, b2, b3⟩, q⟩ := h
  obtain ⟨t, rfl⟩ := rx
  obtain ⟨t2, rfl⟩ := ry
  have lz : (tx z).length = z.length := by show (z.toArray).size = _; simp
  refine P.mul_str ?_ (fun h1 _ => ?_) (fun h1 _ => ?_) ?_
  · have h1 : ¬ n < -(2 ^ 63 : Int) := by omega
    have h2 : ¬ n ≥ 2 ^ 63 := by omega
    rw [decide_eq_false h1, decide_eq_false h2]; rfl
  · rw [lz]
    have n0 : 0 < n := by omega
    have e : (z.length : Int) * n ≤ 16777216 := by
      have : ((z.length * n.toNat : Nat) : Int) ≤ 16777216 := by omega
      rw [Int.natCast_mul, Int.toNat_of_nonneg (by omega)] at this
      exact this
    have : (z.length : Int) ≤ (2 ^ 63 - 1) / n := by
      rw [Int.le_ediv_iff_mul_le n0]
      omega
    omega
  · rw [lz]
    show decide _ = false
    refine decide_eq_false ?_
    rw [sizeLine_eq]
    omega
  · by_cases h1 : n < 1
    · rw [if_pos h1]
      have e : n.toNat = 0 := by omega
      rw [e] at q
      exact ⟨by decide, .str Str.empty, H, I.tok _, ⟨_, rfl⟩, q⟩
    · rw [if_neg h1]
      by_cases h2 : (n == 1 || (tx z).length == 0) = true
      · rw [if_pos h2]
        refine ⟨.str (tx z), H, I, ⟨_, rfl⟩, ?_⟩
        have e : (List.replicate n.toNat z).flatten = z := by
          rw [lz, Bool.or_eq_true] at h2
          rcases h2 with h2 | h2
          · have : n = 1 := by simpa using h2
            subst this
            simp
          · have : z = [] := by simpa using h2
            subst this
            simp
        rw [e] at q
        exact q
      · rw [if_neg h2]
        have e : (⟨(List.replicate n.toNat (tx z).cps).foldl (· ++ ·) #[]⟩ : Str) = tx (List.replicate n.toNat z).flatten := by
          show (⟨(List.replicate n.toNat z.toArray).foldl (· ++ ·) #[]⟩ : Str) = _
          rw [cps_rep]
          simp [tx]
        rw [e]
        have ln : (tx (List.replicate n.toNat z).flatten).length ≤ 16777216 := by
          show ((List.replicate n.toNat z).flatten.toArray).size ≤ _
          simp only [List.size_toArray, List.length_flatten, List.map_replicate, List.sum_replicate_nat]
          rw [Nat.mul_comm]
          exact b3
        exact ⟨by first | exact ln | (show decide _ = false; exact decide_eq_false (by omega)), .str _, H, I.tok _, ⟨_, rfl⟩, q⟩
def rMulX (K : Frag) : R2 := fun x y H Q => rI CMulW (fun i j => .int (i * j)) x y H Q ∨ (rRep x y H Q ∨ (rRepT K x y H Q ∨ (rOnceT K x y H Q ∨ rRepS x y H Q)))
theorem op_mulX' : OpR X (binaryOp .Mult) (rMulX X.K) := OpR.or op_mulW (OpR.or op_rep (OpR.or op_repT (OpR.or op_onceT op_repS)))
theorem tx_length (s : List Nat) : (tx s).length = s.length := by
  unfold tx
  show (s.toArray).size = s.length
  simp
theorem tx_append (s t : List Nat) : tx s ++ tx t = tx (s ++ t) := by
  show (⟨s.toArray ++ t.toArray⟩ : Str) = ⟨(s ++ t).toArray⟩
  simp
theorem cmul_of {i j : Int} (e : mulOk i j = true) : CMulW i j := by
  unfold mulOk at e
  show i.natAbs.log2 + j.natAbs.log2 < 1000000
  exact of_decide_eq_true e
theorem cdiv_of {i j : Int} (e : divOk j = true) : CDivW i j := by
  unfold divOk at e
  rw [Bool.and_eq_true] at e
  exact ⟨of_decide_eq_true e.1, of_decide_eq_true e.2⟩
theorem addV_sound {F1 F2 : List Addr} {v1 v2 : V} (ok : HpOk K β H h) (e : addV h r1 r2 = .ok r h') (R1 : RelR K β H r1 v1 F1) (R2 : RelR K β H r2 v2 F2) (hh : h' = h → PostR K β H h r Q) : rAddX K v1 v2 H Q := by
  unfold addV at e
  split at e
  · cases e
    rw [Rel.int R1, Rel.int R2]
    exact .inl (.inl ⟨_, _, rfl, rfl, (hh rfl).val ok Ext.refl (mkInt _)⟩)
  · obtain ⟨e1, rfl, rfl⟩ := when_ok e
    rw [Rel.str R1, Rel.str R2]
    refine .inl (.inr ⟨_, _, rfl, rfl, ?_, ?_⟩)
    · rw [tx_length, tx_length, ← lim_eq]; exact of_decide_eq_true e1
    · rw [tx_append]; exact (hh rfl).val ok Ext.refl (mkStr _)
  · obtain ⟨e1, rfl, rfl⟩ := when_ok e
    obtain ⟨a, xs, rfl, s1, q1⟩ := Rel.tup R1
    obtain ⟨b, ys, rfl, s2, q2⟩ := Rel.tup R2
    have p := hh rfl
    refine .inr (.inl ⟨a, b, xs, ys, rfl, rfl, SqT.of s1, SqT.of s2, ?_, fun z => ?_, fun _ z => ?_, fun _ _ t ht => ?_⟩)
    · rw [← q1.length, ← q2.length, ← lim_eq]; exact of_decide_eq_true e1
    · subst z
      refine p.val ok Ext.refl (mkTup s2 ?_)
      have := Rels.append q1 q2
      simpa using this
    · subst z
      refine p.val ok Ext.refl (mkTup s1 ?_)
      have := Rels.append q1 q2
      simpa using this
    · have y : Ext β H β (upd H t (.tup (xs ++ ys))) := Ext.new ht
      exact p.val (ok.new ht) y (mkTup upd_same ((Rels.append q1 q2).mono (Kp.of ok y) _ _))
  · split at e
    · rename_i a b o1 o2
      obtain ⟨e1, rfl, rfl⟩ := when_ok e
      obtain ⟨l, rfl, xs, s1, q1⟩ := objOf_ok ok R1 o1
      obtain ⟨m, rfl, ys, s2, q2⟩ := objOf_ok ok R2 o2
      refine .inr (.inr ⟨l, m, xs, ys, rfl, rfl, s1, s2, ?_, fun t ht => ?_⟩)
      · rw [← q1.length, ← q2.length, ← lim_eq]; exact of_decide_eq_true e1
      · exact (hh rfl).newL ok Ext.refl ht (Rels.append q1 q2)
    · cases e
theorem addV_heap (e : addV h r1 r2 = .ok r h') : h' = h := by
  unfold addV at e
  split at e
  · cases e; rfl
  · exact (when_ok e).2.2
  · exact (when_ok e).2.2
  · split at e
    · exact (when_ok e).2.2
    · cases e
theorem mulV_heap (e : mulV h r1 r2 = .ok r h') : h' = h := by
  unfold mulV at e
  split at e
  · exact (when_ok e).2.2
  · exact (when_ok e).2.2
  · exact (when_ok e).2.2
  · split at e
    · exact (when_ok e).2.2
    · cases e
  · cases e
theorem mulV_sound {F1 F2 : List Addr} {v1 v2 : V} (ok : HpOk K β H h) (e : mulV h r1 r2 = .ok r h') (R1 : RelR K β H r1 v1 F1) (R2 : RelR K β H r2 v2 F2) (p : PostR K β H h r Q) : rMulX K v1 v2 H Q := by
  unfold mulV at e
  split at e
  · obtain ⟨e1, rfl, rfl⟩ := when_ok e
    rw [Rel.int R1, Rel.int R2]
    exact .inl ⟨_, _, rfl, rfl, cmul_of e1, p.val ok Ext.refl (mkInt _)⟩
  · obtain ⟨e1, rfl, rfl⟩ := when_ok e
    simp only [Bool.and_eq_true, decide_eq_true_eq, Bool.not_eq_true'] at e1
    obtain ⟨⟨⟨e0, e1⟩, e2⟩, e3⟩ := e1
    rename_i ds0 j0
    by_cases j1 : j0 = 1
    · subst j1
      have R1' := R1
      obtain ⟨a, xs, rfl, s1, q1⟩ := Rel.tup R1
      rw [Rel.int R2]
      refine .inr (.inr (.inr (.inl ⟨a, xs, rfl, rfl, SqT.of s1, p.val ok Ext.refl ?_⟩)))
      have e5 : (List.replicate (1 : Int).toNat ds0).flatten = ds0 := by simp
      rw [e5]
      exact R1'.2
    obtain ⟨a, xs, rfl, s1, q1⟩ := Rel.tup R1
    rw [Rel.int R2]
    refine .inr (.inr (.inl ⟨a, _, xs, rfl, rfl, SqT.of s1, ?_, by omega, e2, ?_, fun t ht => ?_⟩))
    · intro z
      subst z
      have := q1.length
      rw [List.length_nil, List.length_eq_zero_iff] at this
      subst this
      cases e0
    · rw [← q1.length]; exact e3
    · have y : Ext β H β (upd H t (.tup (List.replicate (Int.toNat j0) xs).flatten)) := Ext.new ht
      exact p.val (ok.new ht) y (mkTup upd_same ((Rels.rep q1 _).mono (Kp.of ok y) _ _))
  · obtain ⟨e1, rfl, rfl⟩ := when_ok e
    simp only [Bool.and_eq_true, decide_eq_true_eq] at e1
    obtain ⟨⟨e1, e2⟩, e3⟩ := e1
    rw [Rel.str R1, Rel.int R2]
    exact .inr (.inr (.inr (.inr ⟨_, _, rfl, rfl, ⟨e2, e3, e1⟩, p.val ok Ext.refl (mkStr _)⟩)))
  · split at e
    · rename_i a o1
      obtain ⟨e1, rfl, rfl⟩ := when_ok e
      simp only [Bool.and_eq_true, decide_eq_true_eq] at e1
      obtain ⟨⟨e1, e2⟩, e3⟩ := e1
      obtain ⟨l, rfl, xs, s1, q1⟩ := objOf_ok ok R1 o1
      rw [Rel.int R2]
      refine .inr (.inl ⟨l, _, xs, rfl, rfl, s1, e2, e3, ?_, fun t ht => ?_⟩)
      · rw [← q1.length, ← lim_eq]; exact e1
      · exact p.newL ok Ext.refl ht (Rels.rep q1 _)
    · cases e
  · cases e
/-- an operator's rule that covers the evaluator's -/
structure BopR (X : Cx) (f : Value → Value → Sem Value) (o : Bop) (r : R2) : Prop where
  run : OpR X f r
  of : ∀ {β : List Addr} {H : AHp} {h h' : Hp} {r1 r2 r' : Rv} {v1 v2 : V} {F1 F2 : List Addr} {Q : VK}, HpOk X.K β H h → binV h o r1 r2 = .ok r' h' → RelR X.K β H r1 v1 F1 → RelR X.K β H r2 v2 F2 → PostR X.K β H h' r' Q → r v1 v2 H Q
theorem bop_add : BopR X (binaryOp .Add) .add (rAddX X.K) := ⟨op_addX, fun ok e R1 R2 p => by
  simp only [binV] at e
  have q := addV_heap e
  subst q
  exact addV_sound ok e R1 R2 fun _ => p⟩
theorem bop_mul : BopR X (binaryOp .Mult) .mul (rMulX X.K) := ⟨op_mulX', fun ok e R1 R2 p => by
  simp only [binV] at e
  have q := mulV_heap e
  subst q
  exact mulV_sound ok e R1 R2 p⟩
theorem intOp_ok {f : Int → Int → R Rv} (e : intOp f r1 r2 = .ok r h') : ∃ i j, r1 = .val (.int i) ∧ r2 = .val (.int j) ∧ f i j = .ok r h' := by
  unfold intOp at e
  split at e
  · exact ⟨_, _, rfl, rfl, e⟩
  · cases e
theorem bop_sub : BopR X (binaryOp .Sub) .sub (rI0 fun i j => .int (i - j)) := ⟨op_sub, fun ok e R1 R2 p => by
  simp only [binV] at e
  obtain ⟨i, j, rfl, rfl, e⟩ := intOp_ok e
  cases e
  rw [Rel.int R1, Rel.int R2]
  exact ⟨_, _, rfl, rfl, p.val ok Ext.refl (mkInt _)⟩⟩
theorem bop_fdiv : BopR X (binaryOp .FloorDiv) .fdiv (rI CDivW fun i j => .int (i / j)) := ⟨op_fdivW, fun ok e R1 R2 p => by
  simp only [binV] at e
  obtain ⟨i, j, rfl, rfl, e⟩ := intOp_ok e
  obtain ⟨e1, rfl, rfl⟩ := when_ok e
  rw [Rel.int R1, Rel.int R2]
  exact ⟨_, _, rfl, rfl, cdiv_of e1, p.val ok Ext.refl (mkInt _)⟩⟩
theorem bop_mod : BopR X (binaryOp .Mod) .mod (rI (fun _ j => 0 < j) fun i j => .int (i % j)) := ⟨op_mod, fun ok e R1 R2 p => by
  simp only [binV] at e
  obtain ⟨i, j, rfl, rfl, e⟩ := intOp_ok e
  obtain ⟨e1, rfl, rfl⟩ := when_ok e
  rw [Rel.int R1, Rel.int R2]
  exact ⟨_, _, rfl, rfl, of_decide_eq_true e1, p.val ok Ext.refl (mkInt _)⟩⟩
theorem bop_pow : BopR X (binaryOp .Pow) .pow (rI CPow fun i j => .int (i ^ j.toNat)) := ⟨op_pow, fun ok e R1 R2 p => by
  simp only [binV] at e
  obtain ⟨i, j, rfl, rfl, e⟩ := intOp_ok e
  obtain ⟨e1, rfl, rfl⟩ := when_ok e
  simp only [powOk, Bool.and_eq_true, decide_eq_true_eq] at e1
  rw [Rel.int R1, Rel.int R2]
  exact ⟨_, _, rfl, rfl, ⟨e1.1.1, e1.1.2, e1.2⟩, p.val ok Ext.refl (mkInt _)⟩⟩
theorem s_bin {o : Bop} {op : Operator} {rr : R2} {a b : E} {pa pb : Expr} {pos : Pos} (B : BopR X (binaryOp op) o rr) (ha : PE X pa (tE C X.K a)) (hb : PE X pb (tE C X.K b)) : PE X (.BinOp pa op pb pos) (tE C X.K (.bin o a b)) :=
  imE (pe_op B.run ha hb) fun σ H Q q => by
    obtain ⟨β, ρ, h, r, h', ee, ok, e, p⟩ := q
    simp only [ev] at e
    obtain ⟨r1, h1, e1, e⟩ := bind_ok e
    obtain ⟨r2, h2, e2, e⟩ := bind_ok e
    refine twoE ee ok e1 e2 fun v1 v2 H2 β2 F1 F2 ok2 ee2 x2 R1 R2 f nd => ?_
    exact B.of ok2 e R1 R2 (p.later ok2 x2)
theorem s_neg {a : E} {pa : Expr} {pos : Pos} (ha : PE X pa (tE C X.K a)) : PE X (.UnaryOp .USub pa pos) (tE C X.K (.neg a)) :=
  imE (pe_un un_neg ha) fun σ H Q q => by
    obtain ⟨β, ρ, h, r, h', ee, ok, e, p⟩ := q
    simp only [ev] at e
    obtain ⟨r1, h1, e1, e⟩ := bind_ok e
    refine oneE ee ok e1 fun v1 H1 β1 F1 ok1 ee1 x1 R1 f1 => ?_
    split at e
    · cases e
      rw [Rel.int R1]
      exact ⟨_, rfl, p.val ok1 x1 (mkInt _)⟩
    · cases e
/-! ### comparisons -/
theorem op_orElse {f : Value → Value → Sem Value} {r r' : R2} (h : OpR X f r) (h' : OpR X f r') : OpR X f (fun x y H Q => r x y H Q ∨ r' x y H Q) := OpR.or h h'
structure CopR (X : Cx) (op : CmpOp) (o : Cop) (r : R2) : Prop where
  run : OpR X (compareOp op) r
  of : ∀ {β : List Addr} {H : AHp} {h h' : Hp} {r1 r2 r' : Rv} {v1 v2 : V} {F1 F2 : List Addr} {Q : VK}, HpOk X.K β H h → cmpV h o r1 r2 = .ok r' h' → RelR X.K β H r1 v1 F1 → RelR X.K β H r2 v2 F2 → (∀ a ∈ F1 ++ F2, a ∉ β) → (F1 ++ F2).Nodup → PostR X.K β H h' r' Q → r v1 v2 H Q
theorem s_cmp {o : Cop} {op : CmpOp} {rr : R2} {a b : E} {pa pb : Expr} {pos : Pos} (B : CopR X op o rr) (ha : PE X pa (tE C X.K a)) (hb : PE X pb (tE C X.K b)) (hm : behindInMarks op pb = false) : PE X (.Compare pa [op] [pb] pos) (tE C X.K (.cmp o a b)) :=
  imE (pe_cmpR B.run ha hb hm) fun σ H Q q => by
    obtain ⟨β, ρ, h, r, h', ee, ok, e, p⟩ := q
    simp only [ev] at e
    obtain ⟨r1, h1, e1, e⟩ := bind_ok e
    obtain ⟨r2, h2, e2, e⟩ := bind_ok e
    refine twoE ee ok e1 e2 fun v1 v2 H2 β2 F1 F2 ok2 ee2 x2 R1 R2 f nd => ?_
    exact B.of ok2 e R1 R2 (fun a m => (f a m).1) nd (p.later ok2 x2)
/-- a comparison gives a bool and leaves the heap -/
theorem cmpV_bool {o : Cop} (e : cmpV h o r1 r2 = .ok r h') : (∃ b, r = .val (.bl b)) ∧ h' = h := by
  unfold cmpV at e
  split at e
  all_goals first
    | (obtain ⟨b, _, rfl, rfl⟩ := boolR_ok e; exact ⟨⟨b, rfl⟩, rfl⟩)
    | (cases e; exact ⟨⟨_, rfl⟩, rfl⟩)
    | cases e
theorem t_cmp {o : Cop} {op : CmpOp} {rr : R2} {a b : E} {pa pb : Expr} {pos : Pos} (B : CopR X op o rr) (ha : PE X pa (tE C X.K a)) (hb : PE X pb (tE C X.K b)) (hm : behindInMarks op pb = false) : PT X (.Compare pa [op] [pb] pos) (tT C X.K (.cmp o a b)) :=
  imT (pt_cmpR B.run ha hb hm) fun σ H Q q => by
    obtain ⟨β, ρ, h, b0, h', ee, ok, e, p⟩ := q
    simp only [tst] at e
    obtain ⟨r0, h0, e0, e⟩ := bind_ok e
    simp only [ev] at e0
    obtain ⟨r1, h1, e1, e0⟩ := bind_ok e0
    obtain ⟨r2, h2, e2, e0⟩ := bind_ok e0
    refine twoE (k := fun v1 v2 H2 => rr v1 v2 H2 fun z H3 => ∃ k, z = .bl k ∧ Q k H3) ee ok e1 e2 fun v1 v2 H2 β2 F1 F2 ok2 ee2 x2 R1 R2 f nd => ?_
    obtain ⟨⟨c, rfl⟩, rfl⟩ := cmpV_bool e0
    obtain ⟨e3, rfl⟩ := opt_ok e
    cases e3
    refine B.of ok2 e0 R1 R2 (fun a m => (f a m).1) nd fun v H' β' F ok' x' R' f' => ?_
    exact ⟨_, Rel.bl R', p H' β' ok' (x2.trans x')⟩
end
end G

/-! G4: comparisons. -/
namespace G
open PySem PySem.Spec L2
theorem tx_inj {a b : List Nat} (e : tx a = tx b) : a = b := by
  unfold tx at e
  have := congrArg (fun s : Str => s.cps.toList) e
  simpa using this
theorem tx_beq (a b : List Nat) : (tx a == tx b) = decide (a = b) := by
  by_cases e : a = b
  · subst e; simp
  · rw [decide_eq_false e]
    exact beq_eq_false_iff_ne.mpr fun z => e (tx_inj z)
theorem eqvAll_map (f : D → PyData) (g : D → D → Bool) : ∀ (xs ys : List D), (∀ x ∈ xs, ∀ y ∈ ys, PyData.eqv (f x) (f y) = g x y) → PyData.eqvAll (xs.map f) (ys.map f) = all2 g xs ys
  | [], [], _ => by simp [PyData.eqvAll, all2]
  | [], _ :: _, _ => by simp [PyData.eqvAll, all2]
  | _ :: _, [], _ => by simp [PyData.eqvAll, all2]
  | x :: xs, y :: ys, k => by
    simp only [List.map_cons, PyData.eqvAll, all2]
    rw [k x (by simp) y (by simp), eqvAll_map f g xs ys fun a ha b hb => k a (by simp [ha]) b (by simp [hb])]
theorem eqv_toP (h : Hp) : ∀ (n : Nat) (d e : D), dok h n d = true → dok h n e = true → PyData.eqv (toP h n d) (toP h n e) = deq h n d e
  | 0, d, _, k, _ => by simp [dok] at k
  | n + 1, d, e, k1, k2 => by
    have ih := eqv_toP h n
    have all : ∀ xs ys : List D, xs.all (dok h n) = true → ys.all (dok h n) = true → PyData.eqvAll (xs.map (toP h n)) (ys.map (toP h n)) = all2 (deq h n) xs ys := fun xs ys a b =>
      eqvAll_map _ _ xs ys fun x hx y hy => ih x y (List.all_eq_true.mp a x hx) (List.all_eq_true.mp b y hy)
    have lk : ∀ k, dok h (n + 1) (.ref k) = true → ∃ xs, (h[k]?).bind lstIn = some xs ∧ xs.all (dok h n) = true := fun k q => by
      simp only [dok] at q
      split at q
      · rename_i xs e; exact ⟨xs, e, q⟩
      · cases q
    cases d with
    | ref k =>
      obtain ⟨xs, e1, a1⟩ := lk k k1
      cases e with
      | ref j =>
        obtain ⟨ys, e2, a2⟩ := lk j k2
        simp only [toP, deq, e1, e2, PyData.eqv]
        exact all xs ys a1 a2
      | rol ys =>
        simp only [toP, deq, e1, PyData.eqv]
        exact all xs ys a1 (by simpa [dok] using k2)
      | _ => simp [toP, deq, e1, PyData.eqv]
    | rol xs =>
      have a1 : xs.all (dok h n) = true := by simpa [dok] using k1
      cases e with
      | ref j =>
        obtain ⟨ys, e2, a2⟩ := lk j k2
        simp only [toP, deq, e2, PyData.eqv]
        exact all xs ys a1 a2
      | rol ys =>
        simp only [toP, deq, PyData.eqv]
        exact all xs ys a1 (by simpa [dok] using k2)
      | _ => simp [toP, deq, PyData.eqv]
    | ktup xs =>
      have a1 : xs.all (dok h n) = true := by simpa [dok] using k1
      cases e with
      | tup ys =>
        simp only [toP, deq, PyData.eqv]
        exact all xs ys a1 (by simpa [dok] using k2)
      | ktup ys =>
        simp only [toP, deq, PyData.eqv]
        exact all xs ys a1 (by simpa [dok] using k2)
      | ref j =>
        obtain ⟨ys, e2, a2⟩ := lk j k2
        simp [toP, deq, e2, PyData.eqv]
      | _ => simp [toP, deq, PyData.eqv]
    | tup xs =>
      have a1 : xs.all (dok h n) = true := by simpa [dok] using k1
      cases e with
      | tup ys =>
        simp only [toP, deq, PyData.eqv]
        exact all xs ys a1 (by simpa [dok] using k2)
      | ktup ys =>
        simp only [toP, deq, PyData.eqv]
        exact all xs ys a1 (by simpa [dok] using k2)
      | ref j =>
        obtain ⟨ys, e2, a2⟩ := lk j k2
        simp [toP, deq, e2, PyData.eqv]
      | _ => simp [toP, deq, PyData.eqv]
    | non =>
      cases e with
      | ref j =>
        obtain ⟨ys, e2, a2⟩ := lk j k2
        simp [toP, deq, e2, PyData.eqv]
      | _ => simp [toP, deq, PyData.eqv]
    | bl a =>
      cases e with
      | ref j =>
        obtain ⟨ys, e2, a2⟩ := lk j k2
        simp [toP, deq, e2, PyData.eqv]
      | bl b => simp [toP, deq, PyData.eqv, Bool.beq_eq_decide_eq]
      | int j => simp only [toP, deq, PyData.eqv]; rw [Bool.eq_iff_iff]; simp
      | _ => simp [toP, deq, PyData.eqv]
    | int i =>
      cases e with
      | ref j =>
        obtain ⟨ys, e2, a2⟩ := lk j k2
        simp [toP, deq, e2, PyData.eqv]
      | bl b => simp only [toP, deq, PyData.eqv]; rw [Bool.eq_iff_iff]; simp
      | int j => simp only [toP, deq, PyData.eqv]; rw [Bool.eq_iff_iff]; simp
      | _ => simp [toP, deq, PyData.eqv]
    | str a =>
      cases e with
      | ref j =>
        obtain ⟨ys, e2, a2⟩ := lk j k2
        simp [toP, deq, e2, PyData.eqv]
      | str b => simp only [toP, deq, PyData.eqv]; exact tx_beq a b
      | _ => simp [toP, deq, PyData.eqv]
section
variable {K : Frag} {β : List Addr} {H : AHp} {h : Hp}
theorem lay_map (f : D → PyData) : ∀ xs : List D, (∀ x ∈ xs, (f x).canLay0 = true) → PyData.canLayAll0 (xs.map f) = true
  | [], _ => by simp [PyData.canLayAll0]
  | x :: xs, k => by
    simp only [List.map_cons, PyData.canLayAll0, k x (by simp), Bool.true_and]
    exact lay_map f xs fun y hy => k y (by simp [hy])
theorem depth_map (f : D → PyData) (m : Nat) : ∀ xs : List D, (∀ x ∈ xs, (f x).depth ≤ m) → PyData.depthAll (xs.map f) ≤ m
  | [], _ => by simp [PyData.depthAll]
  | x :: xs, k => by
    simp only [List.map_cons, PyData.depthAll]
    have := k x (by simp)
    have := depth_map f m xs fun y hy => k y (by simp [hy])
    omega
theorem strOk_tx {s : List Nat} (k : (s.all fun c => decide (c < 55296)) = true) : PyData.strOk (tx s) = true := by
  unfold PyData.strOk tx
  simp only [List.all_toArray]
  rw [List.all_eq_true] at k ⊢
  intro c hc
  have := of_decide_eq_true (k c hc)
  simp
  omega
theorem toP_ok (ok : HpOk K β H h) : ∀ (n : Nat) (d : D), dok h n d = true → (toP h n d).canLay0 = true ∧ (toP h n d).depth ≤ n ∧ ∀ v, Rel K β H d v → Dp K H v (toP h n d)
  | 0, d, k => by simp [dok] at k
  | n + 1, d, k => by
    have ih := toP_ok ok n
    have many : ∀ xs : List D, xs.all (dok h n) = true → PyData.canLayAll0 (xs.map (toP h n)) = true ∧ PyData.depthAll (xs.map (toP h n)) ≤ n ∧ ∀ vs, Rels K β H xs vs → DpAll K H vs (xs.map (toP h n)) := by
      intro xs a
      have a' := List.all_eq_true.mp a
      refine ⟨lay_map _ xs fun x hx => (ih x (a' x hx)).1, depth_map _ _ xs fun x hx => (ih x (a' x hx)).2.1, ?_⟩
      clear a
      induction xs with
      | nil => intro vs r; simp only [Rels] at r; subst r; exact .nil
      | cons x xs ih2 =>
        intro vs r
        simp only [Rels] at r
        obtain ⟨v, t, rfl, r1, r2⟩ := r
        exact .cons ((ih x (a' x (by simp))).2.2 v r1) (ih2 (fun y hy => a' y (by simp [hy])) t r2)
    cases d with
    | non => simp only [toP, PyData.canLay0, PyData.depth]; exact ⟨trivial, Nat.zero_le _, fun v r => by simp only [Rel] at r; subst r; exact .non⟩
    | bl b => simp only [toP, PyData.canLay0, PyData.depth]; exact ⟨trivial, Nat.zero_le _, fun v r => by simp only [Rel] at r; subst r; exact .bl b⟩
    | int i => simp only [toP, PyData.canLay0, PyData.depth]; exact ⟨trivial, Nat.zero_le _, fun v r => by simp only [Rel] at r; subst r; exact .int i⟩
    | str s =>
      simp only [toP, PyData.canLay0, PyData.depth]
      exact ⟨strOk_tx (by simpa [dok] using k), Nat.zero_le _, fun v r => by simp only [Rel] at r; subst r; exact .str _⟩
    | tup xs =>
      obtain ⟨m1, m2, m3⟩ := many xs (by simpa [dok] using k)
      simp only [toP, PyData.canLay0, PyData.depth]
      exact ⟨m1, by omega, fun v r => by simp only [Rel] at r; obtain ⟨a, vs, rfl, s, q⟩ := r; exact .tup (SqT.of s) (m3 vs q)⟩
    | ktup xs =>
      obtain ⟨m1, m2, m3⟩ := many xs (by simpa [dok] using k)
      simp only [toP, PyData.canLay0, PyData.depth]
      exact ⟨m1, by omega, fun v r => by simp only [Rel] at r; obtain ⟨a, vs, rfl, s, q⟩ := r; exact .tup (kt_sq s) (m3 vs q)⟩
    | rol xs =>
      obtain ⟨m1, m2, m3⟩ := many xs (by simpa [dok] using k)
      simp only [toP, PyData.canLay0, PyData.depth]
      exact ⟨m1, by omega, fun v r => by simp only [Rel] at r; obtain ⟨a, vs, rfl, s, q⟩ := r; exact .lst s.sq (m3 vs q)⟩
    | ref j =>
      simp only [dok] at k
      split at k
      · rename_i xs e
        obtain ⟨m1, m2, m3⟩ := many xs k
        simp only [toP, e, PyData.canLay0, PyData.depth]
        refine ⟨m1, by omega, fun v r => ?_⟩
        simp only [Rel] at r
        obtain ⟨a, rfl, ea⟩ := r
        cases q : h[j]? with
        | none => rw [q] at e; cases e
        | some o =>
          rw [q] at e
          obtain ⟨b, eb, ob⟩ := ok.obj j o q
          rw [ea] at eb
          cases eb
          cases o with
          | lst ds =>
            cases e
            obtain ⟨vs, e2, rr⟩ := ob
            exact .lst (SqL.of e2) (m3 vs rr)
          | dk _ => cases e
          | dt _ => cases e
      · cases k
theorem shaped_of {p : PyData} (a : p.canLay0 = true) (b : p.depth ≤ 60) : SeqAt.shaped p = true := by
  unfold SeqAt.shaped
  rw [a, Bool.true_and]
  exact decide_eq_true (by omega)
end
/-- the values of two operands over one heap -/
theorem eqV_ok {K : Frag} {β : List Addr} {H : AHp} {h : Hp} {r1 r2 : Rv} {v1 v2 : V} {F1 F2 : List Addr} {b : Bool} (ok : HpOk K β H h) (R1 : RelR K β H r1 v1 F1) (R2 : RelR K β H r2 v2 F2) (nf : ∀ a ∈ F1 ++ F2, a ∉ β) (nd : (F1 ++ F2).Nodup) (e : eqV h r1 r2 = some b) :
    (∃ x y, v1 = x ∧ v2 = y ∧ scal x y = true ∧ decide (x = y) = b) ∨ ∃ p q, Dp K H v1 p ∧ Dp K H v2 q ∧ SeqAt.shaped p = true ∧ SeqAt.shaped q = true ∧ PyData.eqv p q = b := by
  have deep : ∀ {β' : List Addr} {h' : Hp} {d1 d2 : D}, HpOk K β' H h' → Rel K β' H d1 v1 → Rel K β' H d2 v2 → (if (dok h' 60 d1 && dok h' 60 d2) = true then some (deq h' 60 d1 d2) else none) = some b →
      ∃ p q, Dp K H v1 p ∧ Dp K H v2 q ∧ SeqAt.shaped p = true ∧ SeqAt.shaped q = true ∧ PyData.eqv p q = b := by
    intro β' h' d1 d2 ok' q1 q2 e'
    split at e'
    · rename_i k
      rw [Bool.and_eq_true] at k
      obtain ⟨a1, a2, a3⟩ := toP_ok ok' 60 d1 k.1
      obtain ⟨b1, b2, b3⟩ := toP_ok ok' 60 d2 k.2
      exact ⟨_, _, a3 _ q1, b3 _ q2, shaped_of a1 a2, shaped_of b1 b2, by rw [eqv_toP h' 60 d1 d2 k.1 k.2]; exact Option.some.inj e'⟩
    · cases e'
  unfold eqV at e
  split at e
  · rw [Rel.int R1, Rel.int R2]
    refine .inl ⟨_, _, rfl, rfl, rfl, ?_⟩
    rw [← Option.some.inj e, Bool.eq_iff_iff]
    simp
  · rw [Rel.str R1, Rel.str R2]
    refine .inl ⟨_, _, rfl, rfl, rfl, ?_⟩
    rw [← Option.some.inj e, Bool.eq_iff_iff]
    simp only [decide_eq_true_eq]
    exact ⟨fun z => tx_inj (V.str.inj z), fun z => by rw [z]⟩
  · exact .inr (deep ok R1.2 R2.2 e)
  · obtain ⟨a, rfl, rfl, ob⟩ := R2
    have na : a ∉ β := nf a (by simp)
    have k : Kp K β H (β ++ [a]) H := Kp.push
    refine .inr (deep (ok.push ob na) (R1.2.mono k _ _) ?_ e)
    simp only [Rel]
    exact ⟨a, rfl, by rw [← ok.len]; simp⟩
  · obtain ⟨a, rfl, rfl, ob⟩ := R1
    have na : a ∉ β := nf a (by simp)
    have k : Kp K β H (β ++ [a]) H := Kp.push
    refine .inr (deep (ok.push ob na) ?_ (R2.2.mono k _ _) e)
    simp only [Rel]
    exact ⟨a, rfl, by rw [← ok.len]; simp⟩
  · obtain ⟨a, rfl, rfl, ob⟩ := R1
    obtain ⟨c, rfl, rfl, oc⟩ := R2
    have na : a ∉ β := nf a (by simp)
    have nc : c ∉ β := nf c (by simp)
    have hac : a ≠ c := by simpa using nd
    have k : Kp K β H (β ++ [a]) H := Kp.push
    have ok1 := ok.push ob na
    have ok2 := ok1.push (o := _) (a := c) (oc.mono k fun _ z => z) (by simp [nc]; exact fun z => hac z.symm)
    rw [List.append_assoc, List.append_assoc] at ok2
    refine .inr (deep ok2 ?_ ?_ e)
    · simp only [Rel]
      exact ⟨a, rfl, by rw [← ok.len]; simp⟩
    · simp only [Rel]
      refine ⟨c, rfl, ?_⟩
      rw [← ok.len, List.getElem?_append_right (by omega)]
      simp
end G

/-! G5: comparison operators, tests, displays, subscripts. -/
namespace G
open PySem PySem.Spec L2
section
variable {X : Cx}
def rEqX (K : Frag) : R2 := fun x y H Q => rEq x y H Q ∨ rEqD K x y H Q
def rNeX (K : Frag) : R2 := fun x y H Q => rNe x y H Q ∨ rNeD K x y H Q
theorem cop_eq (hu : X.A.units + 64 < cLine) : CopR X .Eq .eq (rEqX X.K) := ⟨OpR.or op_eq (op_eqD hu), fun ok e R1 R2 nf nd p => by
  simp only [cmpV] at e
  obtain ⟨b, eb, rfl, rfl⟩ := boolR_ok e
  rcases eqV_ok ok R1 R2 nf nd eb with ⟨x, y, rfl, rfl, s, d⟩ | ⟨q1, q2, d1, d2, s1, s2, d⟩
  · exact .inl ⟨s, by rw [d]; exact p.val ok Ext.refl (mkBl _)⟩
  · exact .inr ⟨q1, q2, d1, d2, s1, s2, by rw [d]; exact p.val ok Ext.refl (mkBl _)⟩⟩
theorem cop_ne (hu : X.A.units + 64 < cLine) : CopR X .NotEq .ne (rNeX X.K) := ⟨OpR.or op_ne (op_neD hu), fun {β H h h' r1 r2 r' v1 v2 F1 F2 Q} ok e R1 R2 nf nd p => by
  simp only [cmpV] at e
  obtain ⟨b, eb, rfl, rfl⟩ := boolR_ok e
  cases q : eqV h' r1 r2 with
  | none => rw [q] at eb; cases eb
  | some c =>
    rw [q] at eb
    have ec : (!c) = b := Option.some.inj eb
    subst ec
    rcases eqV_ok ok R1 R2 nf nd q with ⟨x, y, rfl, rfl, s, d⟩ | ⟨q1, q2, d1, d2, s1, s2, d⟩
    · exact .inl ⟨s, by rw [d]; exact p.val ok Ext.refl (mkBl _)⟩
    · exact .inr ⟨q1, q2, d1, d2, s1, s2, by rw [d]; exact p.val ok Ext.refl (mkBl _)⟩⟩
theorem ltS_eq : ∀ a b : List Nat, ltS a b = decide (a < b)
  | [], [] => by simp [ltS]
  | [], _ :: _ => by simp [ltS]
  | _ :: _, [] => by simp [ltS]
  | x :: xs, y :: ys => by
    rw [ltS, ltS_eq xs ys, Bool.eq_iff_iff]
    simp only [Bool.or_eq_true, Bool.and_eq_true, decide_eq_true_eq, List.cons_lt_cons_iff]
theorem ordV_ok {K : Frag} {β : List Addr} {H : AHp} {r1 r2 : Rv} {v1 v2 : V} {F1 F2 : List Addr} {p : Bool × Bool} (R1 : RelR K β H r1 v1 F1) (R2 : RelR K β H r2 v2 F2) (e : ordV r1 r2 = some p) :
    (∃ i j, v1 = .int i ∧ v2 = .int j ∧ p = (decide (i < j), decide (j < i))) ∨ ∃ a b : Str, v1 = .str a ∧ v2 = .str b ∧ p = (decide (a.cps.toList < b.cps.toList), decide (b.cps.toList < a.cps.toList)) := by
  unfold ordV at e
  split at e
  · cases e
    exact .inl ⟨_, _, Rel.int R1, Rel.int R2, rfl⟩
  · cases e
    refine .inr ⟨_, _, Rel.str R1, Rel.str R2, ?_⟩
    rw [ltS_eq, ltS_eq]
    rfl
  · cases e
def rOrd (g : Int → Int → Bool) (f : Str → Str → Bool) : R2 := fun x y H Q => rI0 (fun i j => .bl (g i j)) x y H Q ∨ ∃ i j, x = .str i ∧ y = .str j ∧ Q (.bl (f i j)) H
theorem map_some {α γ : Type} {o : Option α} {f : α → γ} {b : γ} (e : o.map f = some b) : ∃ a, o = some a ∧ f a = b := by
  cases o with
  | none => cases e
  | some a => exact ⟨a, rfl, Option.some.inj e⟩
theorem cop_lt : CopR X .Lt .lt (rOrd (fun i j => decide (i < j)) fun a b => decide (a.cps.toList < b.cps.toList)) := ⟨OpR.or op_lt op_lt_str, fun ok e R1 R2 nf nd p => by
  simp only [cmpV] at e
  obtain ⟨b, eb, rfl, rfl⟩ := boolR_ok e
  obtain ⟨q, eq, rfl⟩ := map_some eb
  rcases ordV_ok R1 R2 eq with ⟨i, j, rfl, rfl, rfl⟩ | ⟨i, j, rfl, rfl, rfl⟩
  · exact .inl ⟨i, j, rfl, rfl, p.val ok Ext.refl (mkBl _)⟩
  · exact .inr ⟨i, j, rfl, rfl, p.val ok Ext.refl (mkBl _)⟩⟩
theorem cop_gt : CopR X .Gt .gt (rOrd (fun i j => decide (j < i)) fun a b => decide (b.cps.toList < a.cps.toList)) := ⟨OpR.or op_gt op_gt_str, fun ok e R1 R2 nf nd p => by
  simp only [cmpV] at e
  obtain ⟨b, eb, rfl, rfl⟩ := boolR_ok e
  obtain ⟨q, eq, rfl⟩ := map_some eb
  rcases ordV_ok R1 R2 eq with ⟨i, j, rfl, rfl, rfl⟩ | ⟨i, j, rfl, rfl, rfl⟩
  · exact .inl ⟨i, j, rfl, rfl, p.val ok Ext.refl (mkBl _)⟩
  · exact .inr ⟨i, j, rfl, rfl, p.val ok Ext.refl (mkBl _)⟩⟩
theorem not_lt_le (i j : Int) : (!decide (j < i)) = decide (i ≤ j) := by
  rw [Bool.eq_iff_iff]; simp
theorem cop_le : CopR X .LtE .le (rOrd (fun i j => decide (i ≤ j)) fun a b => !decide (b.cps.toList < a.cps.toList)) := ⟨OpR.or op_le op_le_str, fun ok e R1 R2 nf nd p => by
  simp only [cmpV] at e
  obtain ⟨b, eb, rfl, rfl⟩ := boolR_ok e
  obtain ⟨q, eq, rfl⟩ := map_some eb
  rcases ordV_ok R1 R2 eq with ⟨i, j, rfl, rfl, rfl⟩ | ⟨i, j, rfl, rfl, rfl⟩
  · refine .inl ⟨i, j, rfl, rfl, ?_⟩
    dsimp only
    rw [← not_lt_le]
    exact p.val ok Ext.refl (mkBl _)
  · exact .inr ⟨i, j, rfl, rfl, p.val ok Ext.refl (mkBl _)⟩⟩
theorem cop_ge : CopR X .GtE .ge (rOrd (fun i j => decide (j ≤ i)) fun a b => !decide (a.cps.toList < b.cps.toList)) := ⟨OpR.or op_ge op_ge_str, fun ok e R1 R2 nf nd p => by
  simp only [cmpV] at e
  obtain ⟨b, eb, rfl, rfl⟩ := boolR_ok e
  obtain ⟨q, eq, rfl⟩ := map_some eb
  rcases ordV_ok R1 R2 eq with ⟨i, j, rfl, rfl, rfl⟩ | ⟨i, j, rfl, rfl, rfl⟩
  · refine .inl ⟨i, j, rfl, rfl, ?_⟩
    dsimp only
    rw [← not_lt_le]
    exact p.val ok Ext.refl (mkBl _)
  · exact .inr ⟨i, j, rfl, rfl, p.val ok Ext.refl (mkBl _)⟩⟩
def isNonV : Rv → Bool
  | .val .non => true
  | _ => false
theorem isNon_ok {K : Frag} {β : List Addr} {H : AHp} {r : Rv} {v : V} {F : List Addr} (R1 : RelR K β H r v F) : decide (v = .non) = isNonV r := by
  cases r with
  | new o =>
    obtain ⟨a, rfl, _⟩ := R1
    exact decide_eq_false (fun z => nomatch z)
  | val d =>
    cases d with
    | non => rw [Rel.non R1]; rfl
    | bl b => rw [Rel.bl R1]; exact decide_eq_false (fun z => nomatch z)
    | int b => rw [Rel.int R1]; exact decide_eq_false (fun z => nomatch z)
    | str b => rw [Rel.str R1]; exact decide_eq_false (fun z => nomatch z)
    | tup b => obtain ⟨a, vs, rfl, _⟩ := Rel.tup R1; exact decide_eq_false (fun z => nomatch z)
    | ktup b => obtain ⟨a, vs, rfl, _⟩ := Rel.ktup R1; exact decide_eq_false (fun z => nomatch z)
    | rol b => obtain ⟨a, vs, rfl, _⟩ := Rel.rol R1; exact decide_eq_false (fun z => nomatch z)
    | ref n =>
      have q := R1.2
      simp only [Rel] at q
      obtain ⟨a, rfl, _⟩ := q
      exact decide_eq_false (fun z => nomatch z)
def rIsX : R2 := fun x y H Q => (y = .non ∧ Q (.bl (decide (x = .non))) H) ∨ ∃ a b, x = .bl a ∧ y = .bl b ∧ Q (.bl (decide (a = b))) H
def rIsnX : R2 := fun x y H Q => (y = .non ∧ Q (.bl (!decide (x = .non))) H) ∨ ∃ a b, x = .bl a ∧ y = .bl b ∧ Q (.bl (!decide (a = b))) H
theorem cop_is : CopR X .Is .is rIsX := ⟨OpR.or op_isN op_isBl, fun {β H h h' r1 r2 r' v1 v2 F1 F2 Q} ok e R1 R2 nf nd p => by
  cases r2 with
  | new o => simp [cmpV] at e
  | val d =>
    cases d with
    | non =>
      simp only [cmpV] at e
      have e2 : R.ok (Rv.val (.bl (isNonV r1))) h = R.ok r' h' := by
        rw [← e]; cases r1 with
        | new o => rfl
        | val d => cases d <;> rfl
      cases e2
      exact .inl ⟨Rel.non R2, by rw [isNon_ok R1]; exact p.val ok Ext.refl (mkBl _)⟩
    | bl c =>
      cases r1 with
      | new o => simp [cmpV] at e
      | val d =>
        cases d with
        | bl b =>
          simp only [cmpV] at e
          cases e
          exact .inr ⟨b, c, Rel.bl R1, Rel.bl R2, p.val ok Ext.refl (mkBl _)⟩
        | _ => simp [cmpV] at e
    | _ => simp [cmpV] at e⟩
theorem cop_isn : CopR X .IsNot .isn rIsnX := ⟨OpR.or op_notN op_notBl, fun {β H h h' r1 r2 r' v1 v2 F1 F2 Q} ok e R1 R2 nf nd p => by
  cases r2 with
  | new o => simp [cmpV] at e
  | val d =>
    cases d with
    | non =>
      simp only [cmpV] at e
      have e2 : R.ok (Rv.val (.bl (!isNonV r1))) h = R.ok r' h' := by
        rw [← e]; cases r1 with
        | new o => rfl
        | val d => cases d <;> rfl
      cases e2
      exact .inl ⟨Rel.non R2, by rw [isNon_ok R1]; exact p.val ok Ext.refl (mkBl _)⟩
    | bl c =>
      cases r1 with
      | new o => simp [cmpV] at e
      | val d =>
        cases d with
        | bl b =>
          simp only [cmpV] at e
          cases e
          exact .inr ⟨b, c, Rel.bl R1, Rel.bl R2, p.val ok Ext.refl (mkBl _)⟩
        | _ => simp [cmpV] at e
    | _ => simp [cmpV] at e⟩
end
end G

/-! G6: in, tests, and | or | not, conditional expressions, argument lists, displays, subscripts, slices. -/
namespace G
open PySem PySem.Spec L2
section
variable {X : Cx}
theorem orE {e : Expr} {t1 t2 : TE} (a : PE X e t1) (b : PE X e t2) : PE X e (fun σ H Q => t1 σ H Q ∨ t2 σ H Q) := ⟨fun pins s σ H Q I q => q.elim (a.run pins s σ H Q I) (b.run pins s σ H Q I)⟩
/-! ### in -/
def rDIn : R2 := fun x y H Q => ∃ a o, y = .ref a ∧ DGet H a x o ∧ Q (.bl o.isSome) H
def rDNotIn : R2 := fun x y H Q => ∃ a o, y = .ref a ∧ DGet H a x o ∧ Q (.bl (!o.isSome)) H
theorem op_dIn (hu : X.A.units + 1 < cLine) : OpR X (compareOp .In) rDIn := by
  intro pins s σ H x y v u Q I rx ry q
  obtain ⟨a, o, rfl, g, q⟩ := q
  cases ry
  exact d_in hu I g rx fun s' I' => ⟨.bl _, H, I', rfl, q⟩
theorem op_dNotIn (hu : X.A.units + 1 < cLine) : OpR X (compareOp .NotIn) rDNotIn := by
  intro pins s σ H x y v u Q I rx ry q
  obtain ⟨a, o, rfl, g, q⟩ := q
  cases ry
  exact d_notIn hu I g rx fun s' I' => ⟨.bl _, H, I', rfl, q⟩
def rInX (K : Frag) : R2 := fun x y H Q => ((∃ (c : Nat) (z : Str), x = .str ⟨#[c]⟩ ∧ y = .str z ∧ Q (.bl (decide (c ∈ z.cps.toList))) H) ∨ rIn K false x y H Q) ∨ rDIn x y H Q
def rNinX (K : Frag) : R2 := fun x y H Q => ((∃ (c : Nat) (z : Str), x = .str ⟨#[c]⟩ ∧ y = .str z ∧ Q (.bl (!decide (c ∈ z.cps.toList))) H) ∨ rIn K true x y H Q) ∨ rDNotIn x y H Q
section
variable {K : Frag} {β : List Addr} {H : AHp}
theorem flat_ok {d : D} {v : V} (f : flat d = true) (r : Rel K β H d v) : flatV v = true := by
  cases d with
  | non => simp only [Rel] at r; subst r; rfl
  | bl b => simp only [Rel] at r; subst r; rfl
  | int b => simp only [Rel] at r; subst r; rfl
  | str b => simp only [Rel] at r; subst r; rfl
  | _ => cases f
theorem eqF_ok {d e : D} {v u : V} (f : flat d = true) (g : flat e = true) (r : Rel K β H d v) (q : Rel K β H e u) : L2.eqV v u = eqF d e := by
  cases d with
  | non =>
    simp only [Rel] at r
    subst r
    cases e with
    | non => simp only [Rel] at q; subst q; rfl
    | bl b => simp only [Rel] at q; subst q; rfl
    | int b => simp only [Rel] at q; subst q; rfl
    | str b => simp only [Rel] at q; subst q; rfl
    | _ => cases g
  | bl b =>
    simp only [Rel] at r
    subst r
    cases e with
    | non => simp only [Rel] at q; subst q; rfl
    | bl c => simp only [Rel] at q; subst q; simp only [L2.eqV, eqF, Bool.beq_eq_decide_eq]
    | int c => simp only [Rel] at q; subst q; simp only [L2.eqV, eqF]; rw [Bool.eq_iff_iff]; simp
    | str c => simp only [Rel] at q; subst q; rfl
    | _ => cases g
  | int b =>
    simp only [Rel] at r
    subst r
    cases e with
    | non => simp only [Rel] at q; subst q; rfl
    | bl c => simp only [Rel] at q; subst q; simp only [L2.eqV, eqF]; rw [Bool.eq_iff_iff]; simp
    | int c => simp only [Rel] at q; subst q; simp only [L2.eqV, eqF]; rw [Bool.eq_iff_iff]; simp
    | str c => simp only [Rel] at q; subst q; rfl
    | _ => cases g
  | str b =>
    simp only [Rel] at r
    subst r
    cases e with
    | non => simp only [Rel] at q; subst q; rfl
    | bl c => simp only [Rel] at q; subst q; rfl
    | int c => simp only [Rel] at q; subst q; rfl
    | str c => simp only [Rel] at q; subst q; simp only [L2.eqV, eqF]; exact tx_beq b c
    | _ => cases g
  | _ => cases f
theorem inL_ok {d : D} {xs : List D} {v : V} {vs : List V} {b : Bool} (e : inL d xs = some b) (r : Rel K β H d v) (q : Rels K β H xs vs) : flatV v = true ∧ vs.all flatV = true ∧ L2.inV v vs = b := by
  unfold inL at e
  split at e
  · rename_i k
    rw [Bool.and_eq_true] at k
    obtain ⟨k1, k2⟩ := k
    have e2 := Option.some.inj e
    subst e2
    clear e
    refine ⟨flat_ok k1 r, ?_⟩
    unfold L2.inV
    induction xs generalizing vs with
    | nil => simp only [Rels] at q; subst q; exact ⟨rfl, rfl⟩
    | cons x xs ih =>
      simp only [Rels] at q
      obtain ⟨u, t, rfl, q1, q2⟩ := q
      simp only [List.all_cons, Bool.and_eq_true] at k2
      obtain ⟨i1, i2⟩ := ih q2 k2.2
      refine ⟨by simp only [List.all_cons, flat_ok k2.1 q1, i1, Bool.and_self], ?_⟩
      simp only [List.any_cons]
      rw [i2, eqF_ok k2.1 k1 q1 r]
  · cases e
theorem key_ok {k : D} {v : V} (e : G.keyOk k = true) (r : Rel K β H k v) : ∃ q : Key, keyR k q ∧ v = kV q := by
  cases k with
  | int i => simp only [Rel] at r; subst r; exact ⟨.inl i, rfl, rfl⟩
  | str s => simp only [Rel] at r; subst r; exact ⟨.inr (tx s), rfl, rfl⟩
  | _ => cases e
theorem keyR_beq {a b : D} {p q : Key} (x : keyR a p) (y : keyR b q) : D.beq a b = decide (p = q) := by
  cases a with
  | int i =>
    have x' : p = .inl i := x
    subst x'
    cases b with
    | int j =>
      have y' : q = .inl j := y
      subst y'
      simp only [D.beq]
      rw [Bool.eq_iff_iff]
      simp
    | str t =>
      have y' : q = .inr (tx t) := y
      subst y'
      simp [D.beq]
    | _ => exact y.elim
  | str s =>
    have x' : p = .inr (tx s) := x
    subst x'
    cases b with
    | int j =>
      have y' : q = .inl j := y
      subst y'
      simp [D.beq]
    | str t =>
      have y' : q = .inr (tx t) := y
      subst y'
      simp only [D.beq]
      rw [Bool.eq_iff_iff]
      simp only [decide_eq_true_eq, Sum.inr.injEq]
      exact ⟨fun z => by rw [z], fun z => tx_inj z⟩
    | _ => exact y.elim
  | _ => exact x.elim
def relO (K : Frag) (β : List Addr) (H : AHp) : Option D → Option V → Prop
  | none, o => o = none
  | some d, o => ∃ v, o = some v ∧ Rel K β H d v
theorem look_k {k : D} {q : Key} (x : keyR k q) : ∀ {kvs : List (D × D)} {l : List (Key × V)}, kvR K β H kvs l → relO K β H (look k kvs) (valV l q)
  | [], l, y => by
    have y' : l = [] := y
    subst y'
    rfl
  | (d, e) :: r, l, y => by
    obtain ⟨p, v, t, rfl, y1, y2, y3⟩ := y
    have ih := look_k x y3
    simp only [look]
    rw [keyR_beq y1 x]
    by_cases hp : p = q
    · rw [decide_eq_true hp, if_pos rfl, valV_pos hp]
      exact ⟨v, rfl, y2⟩
    · rw [decide_eq_false hp, if_neg Bool.false_ne_true, valV_neg hp]
      exact ih
theorem keysR_beq : ∀ {xs ys : List D} {p q : List Key}, keysR xs p → keysR ys q → D.beqs xs ys = decide (p = q)
  | [], [], _, _, x, y => by
    have x' : _ = [] := x
    have y' : _ = [] := y
    subst x' y'
    simp [D.beqs]
  | [], y :: ys, _, _, x, w => by
    have x' : _ = [] := x
    obtain ⟨k, r, rfl, _⟩ := w
    subst x'
    simp [D.beqs]
  | x :: xs, [], _, _, w, y => by
    have y' : _ = [] := y
    obtain ⟨k, r, rfl, _⟩ := w
    subst y'
    simp [D.beqs]
  | x :: xs, y :: ys, _, _, w, z => by
    obtain ⟨k, r, rfl, w1, w2⟩ := w
    obtain ⟨l, t, rfl, z1, z2⟩ := z
    simp only [D.beqs]
    rw [keyR_beq w1 z1, keysR_beq w2 z2, Bool.eq_iff_iff]
    simp
theorem keyT_beq {a b : D} {p q : List Key} (x : keyT a p) (y : keyT b q) : D.beq a b = decide (p = q) := by
  cases a with
  | tup xs =>
    cases b with
    | tup ys => simp only [D.beq]; exact keysR_beq x y
    | _ => exact y.elim
  | _ => exact x.elim
theorem look_t {k : D} {q : List Key} (x : keyT k q) : ∀ {kvs : List (D × D)} {l : List (List Key × V)}, kvT K β H kvs l → relO K β H (look k kvs) (valV l q)
  | [], l, y => by
    have y' : l = [] := y
    subst y'
    rfl
  | (d, e) :: r, l, y => by
    obtain ⟨p, v, t, rfl, y1, y2, y3⟩ := y
    have ih := look_t x y3
    simp only [look]
    rw [keyT_beq y1 x]
    by_cases hp : p = q
    · rw [decide_eq_true hp, if_pos rfl, valV_pos hp]
      exact ⟨v, rfl, y2⟩
    · rw [decide_eq_false hp, if_neg Bool.false_ne_true, valV_neg hp]
      exact ih
theorem keys_ok : ∀ {xs : List D} {vs : List V}, xs.all G.keyOk = true → Rels K β H xs vs → ∃ q : List Key, keysR xs q ∧ vs = q.map kV
  | [], vs, _, r => by simp only [Rels] at r; subst r; exact ⟨[], rfl, rfl⟩
  | x :: xs, vs, e, r => by
    simp only [List.all_cons, Bool.and_eq_true] at e
    simp only [Rels] at r
    obtain ⟨v, t, rfl, r1, r2⟩ := r
    obtain ⟨k, k1, rfl⟩ := key_ok e.1 r1
    obtain ⟨q, q1, rfl⟩ := keys_ok e.2 r2
    exact ⟨k :: q, ⟨k, q, rfl, k1, q1⟩, rfl⟩
/-- what a dict tells of a key -/
theorem dget_ok {k : D} {o : O} {a : Addr} {v : V} {r : Option D} (e : dget k o = some r) (ob : ObjR K β H o a) (q : Rel K β H k v) : ∃ w, DGet H a v w ∧ relO K β H r w := by
  cases o with
  | lst ds => cases e
  | dk kvs =>
    simp only [dget] at e
    split at e
    · rename_i kk
      cases e
      obtain ⟨p, p1, rfl⟩ := key_ok kk q
      obtain ⟨l, e1, r1⟩ := ob
      exact ⟨_, DGet.k e1, look_k p1 r1⟩
    · cases e
  | dt kvs =>
    simp only [dget] at e
    split at e
    · rename_i kk
      cases e
      cases k with
      | tup xs =>
        simp only [Rel] at q
        obtain ⟨b, vs, rfl, e2, r2⟩ := q
        obtain ⟨p, p1, rfl⟩ := keys_ok (show xs.all G.keyOk = true from kk) r2
        obtain ⟨l, e1, r1⟩ := ob
        exact ⟨_, DGet.t e1 e2, look_t (k := .tup xs) p1 r1⟩
      | _ => cases kk
    · cases e
theorem relO_isSome {r : Option D} {w : Option V} (x : relO K β H r w) : w.isSome = r.isSome := by
  cases r with
  | none => have x' : w = none := x; subst x'; rfl
  | some d => obtain ⟨v, rfl, _⟩ := x; rfl
/-- the ways of in -/
theorem inV_ok {h : Hp} {d : D} {r2 : Rv} {v1 v2 : V} {F2 : List Addr} {b : Bool} (ok : HpOk K β H h) (e : G.inV h d r2 = some b) (R1 : Rel K β H d v1) (R2 : RelR K β H r2 v2 F2) :
    ((∃ (c : Nat) (z : Str), v1 = .str ⟨#[c]⟩ ∧ v2 = .str z ∧ decide (c ∈ z.cps.toList) = b) ∨ ∃ p xs, v2 = .ref p ∧ (SqL K H p xs ∨ SqT K H p xs) ∧ flatV v1 = true ∧ xs.all flatV = true ∧ L2.inV v1 xs = b) ∨ ∃ a o, v2 = .ref a ∧ DGet H a v1 o ∧ o.isSome = b := by
  unfold G.inV at e
  split at e
  · cases e
    simp only [Rel] at R1
    refine .inl (.inl ⟨_, _, R1, Rel.str R2, ?_⟩)
    rw [Bool.eq_iff_iff]
    simp [tx]
    exact decide_eq_true_iff
  · obtain ⟨p, xs, rfl, s, q⟩ := Rel.tup R2
    obtain ⟨f1, f2, f3⟩ := inL_ok e R1 q
    exact .inl (.inr ⟨p, xs, rfl, .inr (SqT.of s), f1, f2, f3⟩)
  · obtain ⟨p, xs, rfl, s, q⟩ := Rel.ktup R2
    obtain ⟨f1, f2, f3⟩ := inL_ok e R1 q
    exact .inl (.inr ⟨p, xs, rfl, .inr s, f1, f2, f3⟩)
  · obtain ⟨p, xs, rfl, s, q⟩ := Rel.rol R2
    obtain ⟨f1, f2, f3⟩ := inL_ok e R1 q
    exact .inl (.inr ⟨p, xs, rfl, .inl s.sq, f1, f2, f3⟩)
  · cases q : objOf h r2 with
    | none => rw [q] at e; cases e
    | some o =>
      rw [q] at e
      obtain ⟨a, rfl, ob⟩ := objOf_ok ok R2 q
      cases o with
      | lst ds =>
        have e' : inL d ds = some b := e
        obtain ⟨vs, e1, rr⟩ := ob
        obtain ⟨f1, f2, f3⟩ := inL_ok e' R1 rr
        exact .inl (.inr ⟨a, vs, rfl, .inl (SqL.of e1), f1, f2, f3⟩)
      | dk kvs =>
        have e' : (dget d (.dk kvs)).map (·.isSome) = some b := e
        obtain ⟨r, e2, rfl⟩ := map_some e'
        obtain ⟨w, g, x⟩ := dget_ok e2 ob R1
        exact .inr ⟨a, w, rfl, g, relO_isSome x⟩
      | dt kvs =>
        have e' : (dget d (.dt kvs)).map (·.isSome) = some b := e
        obtain ⟨r, e2, rfl⟩ := map_some e'
        obtain ⟨w, g, x⟩ := dget_ok e2 ob R1
        exact .inr ⟨a, w, rfl, g, relO_isSome x⟩
end
theorem cop_in (hu : X.A.units + 1 < cLine) : CopR X .In .in_ (rInX X.K) := ⟨OpR.or (OpR.or op_in_sign op_in_seq) (op_dIn hu), fun {β H h h' r1 r2 r' v1 v2 F1 F2 Q} ok e R1 R2 nf nd p => by
  cases r1 with
  | new o => simp [cmpV] at e
  | val d =>
    simp only [cmpV] at e
    obtain ⟨b, eb, rfl, rfl⟩ := boolR_ok e
    rcases inV_ok ok eb R1.2 R2 with (⟨c, z, rfl, rfl, rfl⟩ | ⟨a, xs, rfl, s, f1, f2, rfl⟩) | ⟨a, o, rfl, g, rfl⟩
    · exact .inl (.inl ⟨c, z, rfl, rfl, p.val ok Ext.refl (mkBl _)⟩)
    · exact .inl (.inr ⟨a, xs, rfl, s, f1, f2, p.val ok Ext.refl (mkBl _)⟩)
    · exact .inr ⟨a, o, rfl, g, p.val ok Ext.refl (mkBl _)⟩⟩
theorem cop_nin (hu : X.A.units + 1 < cLine) : CopR X .NotIn .nin (rNinX X.K) := ⟨OpR.or (OpR.or op_notIn_sign op_notIn_seq) (op_dNotIn hu), fun {β H h h' r1 r2 r' v1 v2 F1 F2 Q} ok e R1 R2 nf nd p => by
  cases r1 with
  | new o => simp [cmpV] at e
  | val d =>
    simp only [cmpV] at e
    obtain ⟨b, eb, rfl, rfl⟩ := boolR_ok e
    obtain ⟨c, ec, rfl⟩ := map_some eb
    rcases inV_ok ok ec R1.2 R2 with (⟨c, z, rfl, rfl, rfl⟩ | ⟨a, xs, rfl, s, f1, f2, rfl⟩) | ⟨a, o, rfl, g, rfl⟩
    · exact .inl (.inl ⟨c, z, rfl, rfl, p.val ok Ext.refl (mkBl _)⟩)
    · exact .inl (.inr ⟨a, xs, rfl, s, f1, f2, p.val ok Ext.refl (mkBl _)⟩)
    · exact .inr ⟨a, o, rfl, g, p.val ok Ext.refl (mkBl _)⟩⟩
end
end G

/-! G7: tests, and | or | not, conditional expressions, argument lists, displays, subscripts, slices. -/
namespace G
open PySem PySem.Spec L2
section
variable {X : Cx} {C : Nat → List D → Hp → R Rv} {K : Frag} {σ : St} {ρ : Env} {β : List Addr} {H : AHp} {h h1 h2 h' : Hp} {r r1 r2 : Rv} {Q : VK}
/-- one test, then on -/
theorem oneT {e : E} {b : Bool} {k : Bool → AHp → Prop} (ee : EnvOk K β H σ ρ) (ok : HpOk K β H h) (ev1 : tst C e ρ h = .ok b h1)
    (q : ∀ H1 β1, HpOk K β1 H1 h1 → EnvOk K β1 H1 σ ρ → Ext β H β1 H1 → k b H1) : tT C K e σ H k :=
  ⟨β, ρ, h, b, h1, ee, ok, ev1, fun H1 β1 ok1 x => q H1 β1 ok1 (ee.mono (Kp.of ok x)) x⟩
theorem truO_ok {o : O} {a : Addr} {b : Bool} (e : truO o = some b) (ob : ObjR K β H o a) : TruV K (.ref a) H b := by
  cases o with
  | lst ds =>
    obtain ⟨vs, e1, q⟩ := ob
    refine .inl ⟨vs, SqL.of e1, ?_⟩
    rw [← Option.some.inj e]
    have := q.length
    cases ds <;> cases vs <;> simp_all
  | dk kvs =>
    obtain ⟨l, e1, q⟩ := ob
    refine .inr (.inr ⟨l, e1, ?_⟩)
    rw [← Option.some.inj e]
    cases kvs with
    | nil => have q' : l = [] := q; subst q'; rfl
    | cons p r => obtain ⟨_, _, t, rfl, _⟩ := q; rfl
  | dt kvs => cases e
theorem isEmpty_rels {ds : List D} {vs : List V} (q : Rels K β H ds vs) : ds.isEmpty = vs.isEmpty := by
  have := q.length
  cases ds <;> cases vs <;> simp_all
theorem tru_ok {v : V} {F : List Addr} {b : Bool} (ok : HpOk K β H h) (e : tru h r = some b) (R1 : RelR K β H r v F) : TruV K v H b := by
  cases r with
  | new o =>
    obtain ⟨a, rfl, _, ob⟩ := R1
    exact truO_ok e ob
  | val d =>
    cases d with
    | non => rw [Rel.non R1]; exact (Option.some.inj e).symm
    | bl c => rw [Rel.bl R1]; exact (Option.some.inj e).symm
    | int i => rw [Rel.int R1]; exact (Option.some.inj e).symm
    | str s =>
      rw [Rel.str R1]
      simp only [tru] at e
      split at e
      · rename_i k
        refine ⟨by rw [tx_length, ← lim_eq]; exact k, ?_⟩
        rw [← Option.some.inj e, tx_length]
        cases s with
        | nil => rfl
        | cons c t => simp; omega
      · cases e
    | tup ds =>
      obtain ⟨a, vs, rfl, s, q⟩ := Rel.tup R1
      exact .inr (.inl ⟨vs, SqT.of s, by rw [← Option.some.inj e, isEmpty_rels q]⟩)
    | ktup ds =>
      obtain ⟨a, vs, rfl, s, q⟩ := Rel.ktup R1
      exact .inr (.inl ⟨vs, s, by rw [← Option.some.inj e, isEmpty_rels q]⟩)
    | rol ds =>
      obtain ⟨a, vs, rfl, s, q⟩ := Rel.rol R1
      exact .inl ⟨vs, s.sq, by rw [← Option.some.inj e, isEmpty_rels q]⟩
    | ref n =>
      have q := R1.2
      simp only [Rel] at q
      obtain ⟨a, rfl, ea⟩ := q
      simp only [tru] at e
      cases q : h[n]? with
      | none => rw [q] at e; cases e
      | some o =>
        rw [q] at e
        obtain ⟨c, ec, ob⟩ := ok.obj n o q
        rw [ea] at ec
        cases ec
        exact truO_ok e ob
/-- the forms whose test is their value's truth -/
def E.plainT : E → Bool
  | .not _ => false
  | .and _ _ => false
  | .or _ _ => false
  | _ => true
theorem tst_plain {e : E} (p : e.plainT = true) (ρ : Env) (h : Hp) : tst C e ρ h = (ev C e ρ h).bind fun x h => opt h (tru h x) := by
  cases e <;> first | (cases p; done) | simp only [tst]
theorem t_plain {e : E} {pe : Expr} (p : e.plainT = true) (he : PE X pe (tE C X.K e)) (hp : ∀ whole, isTrue pe X.env whole = (do let v ← whole; standAt pe.pos; holding [v] (truthy v))) : PT X pe (tT C X.K e) :=
  imT (pt_truth he hp) fun σ H Q q => by
    obtain ⟨β, ρ, h, b, h', ee, ok, e0, p0⟩ := q
    rw [tst_plain p] at e0
    obtain ⟨r1, h1, e1, e2⟩ := bind_ok e0
    obtain ⟨e3, rfl⟩ := opt_ok e2
    exact oneE ee ok e1 fun v H1 β1 F ok1 ee1 x1 R1 f1 => ⟨b, tru_ok ok1 e3 R1, p0 H1 β1 ok1 x1⟩
theorem t_not {a : E} {pa : Expr} {pos : Pos} (ha : PT X pa (tT C X.K a)) : PT X (.UnaryOp .Not pa pos) (tT C X.K (.not a)) :=
  imT (pt_not ha) fun σ H Q q => by
    obtain ⟨β, ρ, h, b, h', ee, ok, e0, p0⟩ := q
    simp only [tst] at e0
    obtain ⟨c, h1, e1, e2⟩ := bind_ok e0
    cases e2
    exact oneT ee ok e1 fun H1 β1 ok1 ee1 x1 => p0 H1 β1 ok1 x1
theorem t_and {a b : E} {pa pb : Expr} {rest : List Expr} {pos : Pos} (ha : PT X pa (tT C X.K a)) (hb : PW X (.BoolOp .And (pb :: rest) pos) (tT C X.K b)) : PW X (.BoolOp .And (pa :: pb :: rest) pos) (tT C X.K (.and a b)) :=
  imW (pw_and ha hb) fun σ H Q q => by
    obtain ⟨β, ρ, h, b0, h', ee, ok, e0, p0⟩ := q
    simp only [tst] at e0
    obtain ⟨c, h1, e1, e2⟩ := bind_ok e0
    refine oneT ee ok e1 fun H1 β1 ok1 ee1 x1 => ?_
    cases c with
    | true => exact iteT (oneT ee1 ok1 e2 fun H2 β2 ok2 ee2 x2 => p0 H2 β2 ok2 (x1.trans x2))
    | false => cases e2; exact iteF (p0 H1 β1 ok1 x1)
theorem t_or {a b : E} {pa pb : Expr} {rest : List Expr} {pos : Pos} (ha : PT X pa (tT C X.K a)) (hb : PW X (.BoolOp .Or (pb :: rest) pos) (tT C X.K b)) : PW X (.BoolOp .Or (pa :: pb :: rest) pos) (tT C X.K (.or a b)) :=
  imW (pw_or ha hb) fun σ H Q q => by
    obtain ⟨β, ρ, h, b0, h', ee, ok, e0, p0⟩ := q
    simp only [tst] at e0
    obtain ⟨c, h1, e1, e2⟩ := bind_ok e0
    refine oneT ee ok e1 fun H1 β1 ok1 ee1 x1 => ?_
    cases c with
    | false => exact iteF (oneT ee1 ok1 e2 fun H2 β2 ok2 ee2 x2 => p0 H2 β2 ok2 (x1.trans x2))
    | true => cases e2; exact iteT (p0 H1 β1 ok1 x1)
theorem t_and1 {a : E} {pa : Expr} {pos : Pos} (ha : PT X pa (tT C X.K a)) : PW X (.BoolOp .And [pa] pos) (tT C X.K a) := pw_and1 ha
theorem t_or1 {a : E} {pa : Expr} {pos : Pos} (ha : PT X pa (tT C X.K a)) : PW X (.BoolOp .Or [pa] pos) (tT C X.K a) := pw_or1 ha
/-! ### the same as values -/
theorem s_not {a : E} {pa : Expr} {pos : Pos} (he : PE X pa (tE C X.K a)) (p : a.plainT = true) : PE X (.UnaryOp .Not pa pos) (tE C X.K (.not a)) :=
  imE (pe_notT (X := X) he) fun σ H Q q => by
    obtain ⟨β, ρ, h, r, h', ee, ok, e0, p0⟩ := q
    simp only [ev] at e0
    obtain ⟨c, h1, e1, e2⟩ := bind_ok e0
    cases e2
    rw [tst_plain p] at e1
    obtain ⟨r1, h2, e1, e3⟩ := bind_ok e1
    obtain ⟨e3, rfl⟩ := opt_ok e3
    refine oneE ee ok e1 fun v H1 β1 F ok1 ee1 x1 R1 f1 => ?_
    exact ⟨c, tru_ok ok1 e3 R1, p0.val ok1 x1 (mkBl _)⟩
theorem s_and {a b : E} {pa pb : Expr} {rest : List Expr} {pos : Pos} (ha : PE X pa (tE C X.K a)) (hb : PE X (.BoolOp .And (pb :: rest) pos) (tE C X.K b)) : PE X (.BoolOp .And (pa :: pb :: rest) pos) (tE C X.K (.and a b)) :=
  imE (pe_and ha hb) fun σ H Q q => by
    obtain ⟨β, ρ, h, r, h', ee, ok, e0, p0⟩ := q
    simp only [ev] at e0
    obtain ⟨r1, h1, e1, e2⟩ := bind_ok e0
    refine oneE ee ok e1 fun v H1 β1 F ok1 ee1 x1 R1 f1 => ?_
    split at e2
    · exact ⟨true, Rel.bl R1, iteT ⟨β1, ρ, h1, r, h', ee1, ok1, e2, p0.later ok1 x1⟩⟩
    · cases e2
      exact ⟨false, Rel.bl R1, iteF (p0.val ok1 x1 (mkBl _))⟩
    · cases e2
theorem s_or {a b : E} {pa pb : Expr} {rest : List Expr} {pos : Pos} (ha : PE X pa (tE C X.K a)) (hb : PE X (.BoolOp .Or (pb :: rest) pos) (tE C X.K b)) : PE X (.BoolOp .Or (pa :: pb :: rest) pos) (tE C X.K (.or a b)) :=
  imE (pe_or ha hb) fun σ H Q q => by
    obtain ⟨β, ρ, h, r, h', ee, ok, e0, p0⟩ := q
    simp only [ev] at e0
    obtain ⟨r1, h1, e1, e2⟩ := bind_ok e0
    refine oneE ee ok e1 fun v H1 β1 F ok1 ee1 x1 R1 f1 => ?_
    split at e2
    · cases e2
      exact ⟨true, Rel.bl R1, iteT (p0.val ok1 x1 (mkBl _))⟩
    · exact ⟨false, Rel.bl R1, iteF ⟨β1, ρ, h1, r, h', ee1, ok1, e2, p0.later ok1 x1⟩⟩
    · cases e2
theorem s_ife {t a b : E} {pt pa pb : Expr} {pos : Pos} (ht : PT X pt (tT C X.K t)) (ha : PE X pa (tE C X.K a)) (hb : PE X pb (tE C X.K b)) : PE X (.IfExp pt pa pb pos) (tE C X.K (.ife t a b)) :=
  imE (pe_ifExp ht ha hb) fun σ H Q q => by
    obtain ⟨β, ρ, h, r, h', ee, ok, e0, p0⟩ := q
    simp only [ev] at e0
    obtain ⟨c, h1, e1, e2⟩ := bind_ok e0
    refine oneT ee ok e1 fun H1 β1 ok1 ee1 x1 => ?_
    cases c with
    | true => exact iteT ⟨β1, ρ, h1, r, h', ee1, ok1, e2, p0.later ok1 x1⟩
    | false => exact iteF ⟨β1, ρ, h1, r, h', ee1, ok1, e2, p0.later ok1 x1⟩
/-! ### chains -/
theorem s_ch_read {o o' : Cop} {op op' : CmpOp} {rr rr' : R2} {a b c : E} (B : CopR X op o rr) (B' : CopR X op' o' rr') (σ : St) (H : AHp) (Q : VK) (q : tE C X.K (.ch o o' a b c) σ H Q) : tChain rr rr' (tE C X.K a) (tE C X.K b) (tE C X.K c) σ H Q := by
  obtain ⟨β, ρ, h, r, h', ee, ok, e, p⟩ := q
  simp only [ev] at e
  obtain ⟨r1, h1, e1, e⟩ := bind_ok e
  obtain ⟨r2, h2, e2, e⟩ := bind_ok e
  obtain ⟨r3, h3, e3, e⟩ := bind_ok e
  refine twoE (k := fun v1 v2 H2 => rr v1 v2 H2 fun z H3 => ∃ k, z = .bl k ∧ (if k = true then tE C X.K c σ H3 (fun w' H4 => rr' v2 w' H4 Q) else Q (.bl false) H3)) ee ok e1 e2 fun v1 v2 H2 β2 F1 F2 ok2 ee2 x2 R1 R2 f nd => ?_
  obtain ⟨⟨c0, rfl⟩, rfl⟩ := cmpV_bool e3
  refine B.of ok2 e3 R1 R2 (fun a m => (f a m).1) nd fun v H' β' F ok' x' R' f' => ?_
  refine ⟨c0, Rel.bl R', ?_⟩
  have g2 : ∀ a ∈ F2, a ∉ β2 := fun a m => (f a (by simp [m])).1
  have R2' := R2.stay ok2 x' g2
  have g2' : ∀ a ∈ F2, a ∉ β' := fun a m mb => by
    rcases x'.nw a mb with z | z
    · exact g2 a m z
    · exact R2.some a m z
  cases c0 with
  | true =>
    refine iteT ?_
    obtain ⟨r4, h4, e4, e⟩ := bind_ok e
    refine oneE (ee2.mono (Kp.of ok2 x')) ok' e4 fun w H4 β4 F4 ok4 ee4 x4 R4 f4 => ?_
    refine B'.of ok4 e (R2'.stay ok' x4 g2') R4 (fun a m => ?_) ?_ (p.later ok4 ((x2.trans x').trans x4))
    · rcases List.mem_append.mp m with m | m
      · intro mb
        rcases x4.nw a mb with z | z
        · exact g2' a m z
        · exact R2'.some a m z
      · exact (f4 a m).1
    · rw [List.nodup_append]
      refine ⟨(List.nodup_append.mp nd).2.1, ?_, fun a m b m2 z => ?_⟩
      · cases r4 with
        | val d => rw [R4.1]; exact List.nodup_nil
        | new o => obtain ⟨a, _, e, _⟩ := R4; rw [e]; simp
      · subst z
        exact R2'.some a m (f4 a m2).2
  | false =>
    cases e
    exact iteF (p.val ok' (x2.trans x') (mkBl _))
theorem s_ch {o o' : Cop} {op op' : CmpOp} {rr rr' : R2} {a b c : E} {pa pb pc : Expr} {pos : Pos} (B : CopR X op o rr) (B' : CopR X op' o' rr') (ha : PE X pa (tE C X.K a)) (hb : PE X pb (tE C X.K b)) (hc : PE X pc (tE C X.K c)) (hm : lastMarks [op, op'] [pb, pc] = false) : PE X (.Compare pa [op, op'] [pb, pc] pos) (tE C X.K (.ch o o' a b c)) :=
  imE (pe_chain B.run B'.run ha hb hc hm) (s_ch_read B B')
theorem t_ch {o o' : Cop} {op op' : CmpOp} {rr rr' : R2} {a b c : E} {pa pb pc : Expr} {pos : Pos} (B : CopR X op o rr) (B' : CopR X op' o' rr') (ha : PE X pa (tE C X.K a)) (hb : PE X pb (tE C X.K b)) (hc : PE X pc (tE C X.K c)) (hm : lastMarks [op, op'] [pb, pc] = false) : PT X (.Compare pa [op, op'] [pb, pc] pos) (tT C X.K (.ch o o' a b c)) := by
  refine imT (pt_chain B.run B'.run ha hb hc hm) fun σ H Q q => ?_
  obtain ⟨β, ρ, h, b0, h', ee, ok, e0, p0⟩ := q
  simp only [tst] at e0
  obtain ⟨r, h0, e, e9⟩ := bind_ok e0
  obtain ⟨e9, rfl⟩ := opt_ok e9
  have p : PostR X.K β H h' r (fun x H' => ∃ k, x = .bl k ∧ Q k H') := fun v H' β' F ok' x' R' f' => by
    have rb : r = .val (.bl b0) := by
      simp only [ev] at e
      obtain ⟨r1, h1, e1, e⟩ := bind_ok e
      obtain ⟨r2, h2, e2, e⟩ := bind_ok e
      obtain ⟨r3, h3, e3, e⟩ := bind_ok e
      split at e
      · obtain ⟨r4, h4, e4, e⟩ := bind_ok e
        obtain ⟨⟨z, rfl⟩, _⟩ := cmpV_bool e
        cases e9; rfl
      · cases e; cases e9; rfl
      · cases e
    subst rb
    exact ⟨b0, Rel.bl R', p0 H' β' ok' x'⟩
  have main := (s_ch_read (C := C) B B' (a := a) (b := b) (c := c)) σ H (fun x H' => ∃ k, x = .bl k ∧ Q k H') ⟨β, ρ, h, r, h', ee, ok, e, p⟩
  exact main
/-! ### argument lists -/
theorem a_nil : PA X [] (tA C X.K .nil) := imA pa_nil fun σ H Q q => by
  obtain ⟨β, ρ, h, rs, h', ee, ok, e, p⟩ := q
  simp only [evs] at e
  cases e
  exact p [] H β [] ok Ext.refl ⟨rfl, rfl⟩ List.nodup_nil (fun _ m => nomatch m)
theorem a_cons {e : E} {es : Es} {pe : Expr} {pes : List Expr} (he : PE X pe (tE C X.K e)) (hes : PA X pes (tA C X.K es)) (hs : starEach (pe :: pes) X.env = (false, eval pe X.env) :: starEach pes X.env) : PA X (pe :: pes) (tA C X.K (.cons e es)) :=
  imA (pa_cons he hes hs) fun σ H Q q => by
    obtain ⟨β, ρ, h, rs, h', ee, ok, e0, p⟩ := q
    simp only [evs] at e0
    obtain ⟨r1, h1, e1, e0⟩ := bind_ok e0
    obtain ⟨rs2, h2, e2, e0⟩ := bind_ok e0
    cases e0
    refine oneE (k := fun x H1 => tA C X.K es σ H1 fun xs H2 => Q (x :: xs) H2) ee ok e1 fun v H1 β1 F1 ok1 ee1 x1 R1 f1 => ?_
    refine ⟨β1, ρ, h1, rs2, h', ee1, ok1, e2, fun vs H2 β2 F2 ok2 x2 R2 nd2 f2 => ?_⟩
    have s1 := R1.some
    refine p (v :: vs) H2 β2 (F1 ++ F2) ok2 (x1.trans x2) ⟨v, vs, F1, F2, rfl, rfl, R1.stay ok1 x2 (fun a m => (f1 a m).1), R2⟩ ?_ fun a m => ?_
    · rw [List.nodup_append]
      refine ⟨?_, nd2, fun a m b m2 z => ?_⟩
      · cases r1 with
        | val d => rw [R1.1]; exact List.nodup_nil
        | new o => obtain ⟨a, _, e, _⟩ := R1; rw [e]; simp
      · subst z
        exact s1 a m (f2 a m2).2
    · rcases List.mem_append.mp m with m | m
      · refine ⟨fun mb => ?_, (f1 a m).2⟩
        rcases x2.nw a mb with z | z
        · exact (f1 a m).1 z
        · exact s1 a m z
      · exact ⟨(f2 a m).1, x1.none ok1 (f2 a m).2⟩
end
/-! ### objects are taken into the heap -/
section
variable {K : Frag} {H : AHp}
theorem boxOne_ok {β : List Addr} {h h' : Hp} {r : Rv} {v : V} {F : List Addr} {d : D} (ok : HpOk K β H h) (R1 : RelR K β H r v F) (nf : ∀ a ∈ F, a ∉ β) (e : boxOne h r = (d, h')) : HpOk K (β ++ F) H h' ∧ Rel K (β ++ F) H d v := by
  cases r with
  | val d' =>
    cases e
    rw [R1.1, List.append_nil]
    exact ⟨ok, R1.2⟩
  | new o =>
    cases e
    obtain ⟨a, rfl, rfl, ob⟩ := R1
    refine ⟨ok.push ob (nf a (by simp)), ?_⟩
    simp only [Rel]
    exact ⟨a, rfl, by rw [← ok.len]; simp⟩
theorem kp_append {β F : List Addr} : Kp K β H (β ++ F) H := ⟨fun _ _ x => x, fun _ _ x => x, fun n b e => by rw [List.getElem?_append_left (List.getElem?_eq_some_iff.mp e).1]; exact e⟩
theorem boxAll_ok : ∀ {rs : List Rv} {vs : List V} {F β : List Addr} {h h' : Hp} {ds : List D}, HpOk K β H h → RelRs K β H rs vs F → F.Nodup → (∀ a ∈ F, a ∉ β) → boxAll h rs = (ds, h') → HpOk K (β ++ F) H h' ∧ Rels K (β ++ F) H ds vs
  | [], vs, F, β, h, h', ds, ok, R1, nd, nf, e => by
    cases e
    obtain ⟨rfl, rfl⟩ := R1
    rw [List.append_nil]
    exact ⟨ok, Rels.nil⟩
  | r :: rs, vs, F, β, h, h', ds, ok, R1, nd, nf, e => by
    obtain ⟨v, t, F1, F2, rfl, rfl, R1, R2⟩ := R1
    cases q : boxOne h r with
    | mk d h1 =>
      cases q2 : boxAll h1 rs with
      | mk es h2 =>
        simp only [boxAll, q, q2] at e
        cases e
        obtain ⟨nd1, nd2, nd3⟩ := List.nodup_append.mp nd
        obtain ⟨ok1, x1⟩ := boxOne_ok ok R1 (fun a m => nf a (by simp [m])) q
        obtain ⟨ok2, x2⟩ := boxAll_ok ok1 (R2.mono kp_append fun _ _ _ z => z) nd2 (fun a m mb => by
          rcases List.mem_append.mp mb with mb | mb
          · exact nf a (by simp [m]) mb
          · exact nd3 a mb a m rfl) q2
        rw [List.append_assoc] at ok2 x2
        refine ⟨ok2, Rels.cons ?_ x2⟩
        have := x1.mono (kp_append (F := F2)) _ _
        rwa [List.append_assoc] at this
end
end G

/-! G8: displays, subscripts, slices, built-in functions. -/
namespace G
open PySem PySem.Spec L2
section
variable {X : Cx} {C : Nat → List D → Hp → R Rv} {K : Frag} {σ : St} {ρ : Env} {β : List Addr} {H : AHp} {h h1 h2 h' : Hp} {r r1 r2 : Rv} {Q : VK}
/-- arguments, all taken into the heap -/
theorem boxedA {es : Es} {k : List V → AHp → Prop} {rs : List Rv} {ds : List D} (ee : EnvOk K β H σ ρ) (ok : HpOk K β H h) (e : evs C es ρ h = .ok rs h1) (eb : boxAll h1 rs = (ds, h2))
    (q : ∀ vs H1 β1, HpOk K β1 H1 h2 → EnvOk K β1 H1 σ ρ → Ext β H β1 H1 → Rels K β1 H1 ds vs → k vs H1) : tA C K es σ H k :=
  ⟨β, ρ, h, rs, h1, ee, ok, e, fun vs H1 β1 F ok1 x1 R1 nd f => by
    obtain ⟨ok2, q2⟩ := boxAll_ok ok1 R1 nd (fun a m => (f a m).1) eb
    have x2 : Ext β H (β1 ++ F) H1 := ⟨x1.fr, fun a m => (List.mem_append.mp m).elim (x1.nw a) fun m => .inr (f a m).2, by obtain ⟨l, e⟩ := x1.pre; exact ⟨l ++ F, by rw [e, List.append_assoc]⟩⟩
    exact q vs H1 (β1 ++ F) ok2 (ee.mono (Kp.of ok x2)) x2 q2⟩
theorem s_tup {es : Es} {pes : List Expr} {n : Nat} {pos : Pos} (ha : PA X pes (tA C X.K es)) : PE X (.Tuple pes n pos) (tE C X.K (.tup es)) :=
  imE (pe_tup ha) fun σ H Q q => by
    obtain ⟨β, ρ, h, r, h', ee, ok, e, p⟩ := q
    simp only [ev] at e
    obtain ⟨rs, h1, e1, e⟩ := bind_ok e
    cases eb : boxAll h1 rs with
    | mk ds h2 =>
      simp only [eb] at e
      obtain ⟨e2, rfl, rfl⟩ := when_ok e
      refine boxedA ee ok e1 eb fun vs H1 β1 ok1 ee1 x1 q1 => ⟨?_, fun t ht => ?_⟩
      · rw [← q1.length, ← lim_eq]; exact of_decide_eq_true e2
      · have y : Ext β1 H1 β1 (upd H1 t (.tup vs)) := Ext.new ht
        exact p.val (ok1.new ht) (x1.trans y) (mkTup upd_same (q1.mono (Kp.of ok1 y) _ _))
theorem s_lst {es : Es} {pes : List Expr} {pos : Pos} (ha : PA X pes (tA C X.K es)) : PE X (.List pes pos) (tE C X.K (.lst es)) :=
  imE (pe_lst ha) fun σ H Q q => by
    obtain ⟨β, ρ, h, r, h', ee, ok, e, p⟩ := q
    simp only [ev] at e
    obtain ⟨rs, h1, e1, e⟩ := bind_ok e
    cases eb : boxAll h1 rs with
    | mk ds h2 =>
      simp only [eb] at e
      obtain ⟨e2, rfl, rfl⟩ := when_ok e
      refine boxedA ee ok e1 eb fun vs H1 β1 ok1 ee1 x1 q1 => ⟨?_, fun t ht => ?_⟩
      · rw [← q1.length, ← lim_eq]; exact of_decide_eq_true e2
      · exact p.newL ok1 x1 ht q1
/-! ### subscripts -/
theorem idxO_ok {k : D} {o : O} {a : Addr} {v : V} {d : D} (e : idxO k o = some d) (ob : ObjR K β H o a) (q : Rel K β H k v) : (∃ xs i w, v = .int i ∧ SqL K H a xs ∧ L2.atI xs i = some w ∧ Rel K β H d w) ∨ ∃ w, DGet H a v (some w) ∧ Rel K β H d w := by
  cases o with
  | lst ds =>
    simp only [idxO] at e
    split at e
    · simp only [Rel] at q
      subst q
      obtain ⟨vs, e1, r⟩ := ob
      obtain ⟨w, w1, w2⟩ := r.atI e
      exact .inl ⟨vs, _, w, rfl, SqL.of e1, w1, w2⟩
    · cases e
  | dk kvs =>
    simp only [idxO] at e
    cases q2 : dget k (.dk kvs) with
    | none => rw [q2] at e; cases e
    | some z =>
      rw [q2] at e
      have e' : z = some d := e
      subst e'
      obtain ⟨w, g, w1, rfl, w2⟩ := dget_ok q2 ob q
      exact .inr ⟨w1, g, w2⟩
  | dt kvs =>
    simp only [idxO] at e
    cases q2 : dget k (.dt kvs) with
    | none => rw [q2] at e; cases e
    | some z =>
      rw [q2] at e
      have e' : z = some d := e
      subst e'
      obtain ⟨w, g, w1, rfl, w2⟩ := dget_ok q2 ob q
      exact .inr ⟨w1, g, w2⟩
theorem cps_tx (s : List Nat) : (tx s).cps.toList = s := by simp [tx]
theorem s_idx {a i : E} {pa pi : Expr} {pos : Pos} (hu : X.A.units + 1 < cLine) (ha : PE X pa (tE C X.K a)) (hi : PE X pi (tE C X.K i)) (hs : PlainIx pi) : PE X (.Subscript pa pi pos) (tE C X.K (.idx a i)) :=
  imE (orE (pe_ix ix_seq ha hi hs) (pe_dget hu ha hi hs)) fun σ H Q q => by
    obtain ⟨β, ρ, h, r, h', ee, ok, e, p⟩ := q
    simp only [ev] at e
    obtain ⟨r1, h1, e1, e⟩ := bind_ok e
    obtain ⟨r2, h2, e2, e⟩ := bind_ok e
    have two : ∀ {k : V → V → AHp → Prop}, (∀ v1 v2 H2 β2 F1 F2, HpOk X.K β2 H2 h2 → Ext β H β2 H2 → RelR X.K β2 H2 r1 v1 F1 → RelR X.K β2 H2 r2 v2 F2 → k v1 v2 H2) → tE C X.K a σ H fun v1 H1 => tE C X.K i σ H1 fun v2 H2 => k v1 v2 H2 :=
      fun hk => twoE ee ok e1 e2 fun v1 v2 H2 β2 F1 F2 ok2 ee2 x2 R1 R2 f nd => hk v1 v2 H2 β2 F1 F2 ok2 x2 R1 R2
    unfold idxV at e
    split at e
    · obtain ⟨e3, rfl⟩ := opt_ok e
      obtain ⟨d, e4, rfl⟩ := map_some e3
      refine .inl (two fun v1 v2 H2 β2 F1 F2 ok2 x2 R1 R2 => ?_)
      obtain ⟨b, vs, rfl, s, q1⟩ := Rel.tup R1
      obtain ⟨w, w1, w2⟩ := q1.atI e4
      exact .inr (.inl ⟨b, vs, _, w, rfl, Rel.int R2, SqT.of s, w1, p.val ok2 x2 w2⟩)
    · obtain ⟨e3, rfl⟩ := opt_ok e
      obtain ⟨d, e4, rfl⟩ := map_some e3
      refine .inl (two fun v1 v2 H2 β2 F1 F2 ok2 x2 R1 R2 => ?_)
      obtain ⟨b, vs, rfl, s, q1⟩ := Rel.ktup R1
      obtain ⟨w, w1, w2⟩ := q1.atI e4
      exact .inr (.inl ⟨b, vs, _, w, rfl, Rel.int R2, s, w1, p.val ok2 x2 w2⟩)
    · obtain ⟨e3, rfl⟩ := opt_ok e
      obtain ⟨d, e4, rfl⟩ := map_some e3
      refine .inl (two fun v1 v2 H2 β2 F1 F2 ok2 x2 R1 R2 => ?_)
      obtain ⟨b, vs, rfl, s, q1⟩ := Rel.rol R1
      obtain ⟨w, w1, w2⟩ := q1.atI e4
      exact .inl ⟨b, vs, _, w, rfl, Rel.int R2, s.sq, w1, p.val ok2 x2 w2⟩
    · split at e
      · rename_i hl
        obtain ⟨e3, rfl⟩ := opt_ok e
        obtain ⟨d, e4, rfl⟩ := map_some e3
        refine .inl (two fun v1 v2 H2 β2 F1 F2 ok2 x2 R1 R2 => ?_)
        refine .inr (.inr ⟨_, _, d, Rel.str R1, Rel.int R2, ?_, ?_, ?_⟩)
        · rw [tx_length, ← lim_eq]; exact hl
        · rw [cps_tx]; exact e4
        · exact p.val ok2 x2 (mkStr [d])
      · cases e
    · rename_i x k _ _ _ _
      obtain ⟨e3, rfl⟩ := opt_ok e
      obtain ⟨d, e4, rfl⟩ := map_some e3
      cases q : objOf h' r1 with
      | none => rw [q] at e4; cases e4
      | some o =>
        rw [q] at e4
        have e5 : idxO k o = some d := e4
        cases o with
        | lst ds =>
          refine .inl (two fun v1 v2 H2 β2 F1 F2 ok2 x2 R1 R2 => ?_)
          obtain ⟨b, rfl, ob⟩ := objOf_ok ok2 R1 q
          rcases idxO_ok e5 ob R2.2 with ⟨xs, i, w, rfl, s, w1, w2⟩ | ⟨w, g, w2⟩
          · exact .inl ⟨b, xs, i, w, rfl, rfl, s, w1, p.val ok2 x2 w2⟩
          · obtain ⟨vs, e6, _⟩ := ob
            rcases g with ⟨_, _, z, _⟩ | ⟨_, _, _, z, _⟩
            · rcases z with z | ⟨_, z⟩ <;> rw [e6] at z <;> cases z
            · rcases z with z | ⟨_, z⟩ <;> rw [e6] at z <;> cases z
        | dk kvs =>
          refine .inr (two fun v1 v2 H2 β2 F1 F2 ok2 x2 R1 R2 => ?_)
          obtain ⟨b, rfl, ob⟩ := objOf_ok ok2 R1 q
          rcases idxO_ok e5 ob R2.2 with ⟨xs, i, w, rfl, s, w1, w2⟩ | ⟨w, g, w2⟩
          · obtain ⟨l, e6, r6⟩ := ob
            simp only [idxO] at e5
            cases q3 : dget k (.dk kvs) with
            | none => rw [q3] at e5; cases e5
            | some z =>
              rw [q3] at e5
              have e' : z = some d := e5
              subst e'
              obtain ⟨w', g, w1', rfl, w2'⟩ := dget_ok q3 ⟨l, e6, r6⟩ R2.2
              exact ⟨b, w1', rfl, g, p.val ok2 x2 w2'⟩
          · exact ⟨b, w, rfl, g, p.val ok2 x2 w2⟩
        | dt kvs =>
          refine .inr (two fun v1 v2 H2 β2 F1 F2 ok2 x2 R1 R2 => ?_)
          obtain ⟨b, rfl, ob⟩ := objOf_ok ok2 R1 q
          rcases idxO_ok e5 ob R2.2 with ⟨xs, i, w, rfl, s, w1, w2⟩ | ⟨w, g, w2⟩
          · simp only [idxO] at e5
            cases q3 : dget k (.dt kvs) with
            | none => rw [q3] at e5; cases e5
            | some z =>
              rw [q3] at e5
              have e' : z = some d := e5
              subst e'
              obtain ⟨w', g, w1', rfl, w2'⟩ := dget_ok q3 ob R2.2
              exact ⟨b, w1', rfl, g, p.val ok2 x2 w2'⟩
          · exact ⟨b, w, rfl, g, p.val ok2 x2 w2⟩
    · cases e
/-! ### slices -/
def tO (C : Nat → List D → Hp → R Rv) (K : Frag) (e : Oe) : TO := fun σ H Q => ∃ β ρ h o i h', EnvOk K β H σ ρ ∧ HpOk K β H h ∧ evo C e ρ h = .ok o h' ∧ optI o = some i ∧ PostB K β H h' (Q i)
theorem o_none : PO X none (tO C X.K .none) := ⟨fun pins s σ H Q I q => po_none.run pins s σ H Q I (by
  obtain ⟨β, ρ, h, o, i, h', ee, ok, e, e2, p⟩ := q
  simp only [evo] at e
  cases e
  cases e2
  exact p H β ok Ext.refl)⟩
theorem o_some {e : E} {pe : Expr} (he : PE X pe (tE C X.K e)) : PO X (some pe) (tO C X.K (.some e)) := ⟨fun pins s σ H Q I q => (po_some he).run pins s σ H Q I (by
  obtain ⟨β, ρ, h, o, i, h', ee, ok, e0, e2, p⟩ := q
  simp only [evo] at e0
  obtain ⟨r1, h1, e1, e0⟩ := bind_ok e0
  refine oneE ee ok e1 fun v H1 β1 F ok1 ee1 x1 R1 f1 => ?_
  split at e0
  · rename_i d
    cases e0
    cases d with
    | int j =>
      cases e2
      exact ⟨j, Rel.int R1, p H1 β1 ok1 x1⟩
    | _ => cases e2
  · cases e0)⟩
end
end G

/-! G9: slices, built-in functions. -/
namespace G
open PySem PySem.Spec L2
section
variable {X : Cx} {C : Nat → List D → Hp → R Rv} {K : Frag} {σ : St} {ρ : Env} {β : List Addr} {H : AHp} {h h1 h2 h' : Hp} {r r1 r2 : Rv} {Q : VK}
/-! ### slices -/
theorem cutS_tx (s : List Nat) (lo hi : Option Int) : cutS (tx s) lo hi = tx (G.cut s lo hi) := by
  unfold cutS G.cut
  rw [tx_length, cps_tx, sIx_eq, sIx_eq]
  rfl
theorem s_slc {a : E} {lo hi : Oe} {pa : Expr} {plo phi : Option Expr} {p2 pos : Pos} (ha : PE X pa (tE C X.K a)) (hl : PO X plo (tO C X.K lo)) (hh : PO X phi (tO C X.K hi)) : PE X (.Subscript pa (.Slice plo phi none p2) pos) (tE C X.K (.slc a lo hi)) :=
  imE (pe_slice (SlR.or sl_tupA (SlR.or sl_list sl_str)) ha hl hh) fun σ H Q q => by
    obtain ⟨β, ρ, h, r, h', ee, ok, e, p⟩ := q
    simp only [ev] at e
    obtain ⟨r1, h1, e1, e⟩ := bind_ok e
    obtain ⟨o1, h2, e2, e⟩ := bind_ok e
    obtain ⟨o2, h3, e3, e⟩ := bind_ok e
    unfold slcV at e
    split at e
    · rename_i l u el eu
      refine oneE ee ok e1 fun v1 H1 β1 F1 ok1 ee1 x1 R1 f1 => ⟨β1, ρ, h1, o1, l, h2, ee1, ok1, e2, el, fun H2 β2 ok2 x2 => ⟨β2, ρ, h2, o2, u, h3, ee1.mono (Kp.of ok1 x2), ok2, e3, eu, fun H3 β3 ok3 x3 => ?_⟩⟩
      have x13 := x2.trans x3
      have R1' := R1.stay ok1 x13 (fun a m => (f1 a m).1)
      have x03 := x1.trans x13
      split at e
      · cases e
        obtain ⟨b, vs, rfl, s, q1⟩ := Rel.tup R1'
        refine .inl ⟨b, vs, rfl, SqT.of s, fun z => ?_, fun _ t ht => ?_⟩
        · refine p.val ok3 x03 (mkTup s ?_)
          have := Rels.cut l u q1
          have e9 : cutV vs l u = vs := by
            unfold cutV
            rw [z.1, z.2]
            simp
          rwa [e9] at this
        · have y : Ext β3 H3 β3 (upd H3 t (.tup (cutV vs l u))) := Ext.new ht
          exact p.val (ok3.new ht) (x03.trans y) (mkTup upd_same ((Rels.cut l u q1).mono (Kp.of ok3 y) _ _))
      · obtain ⟨e4, rfl, rfl⟩ := when_ok e
        refine .inr (.inr ⟨_, Rel.str R1', ?_, ?_⟩)
        · rw [tx_length, ← lim_eq]; exact of_decide_eq_true e4
        · rw [cutS_tx]
          exact p.val ok3 x03 (mkStr _)
      · obtain ⟨e4, rfl⟩ := opt_ok e
        obtain ⟨xs, e5, rfl⟩ := map_some e4
        obtain ⟨b, vs, rfl, s, q1⟩ := lstOf_ok ok3 R1' e5
        exact .inr (.inl ⟨b, vs, rfl, s, fun t ht => p.newL ok3 x03 ht (Rels.cut l u q1)⟩)
    · cases e
/-! ### built-in functions of one argument -/
structure B1R (X : Cx) (f : Value) (b : B1) (rr : List V → AHp → VK → Prop) : Prop where
  run : CallR X f rr
  of : ∀ {β : List Addr} {H : AHp} {h h' : Hp} {r1 r' : Rv} {v1 : V} {F1 : List Addr} {Q : VK}, HpOk X.K β H h → b1V h b r1 = .ok r' h' → RelR X.K β H r1 v1 F1 → (∀ a ∈ F1, a ∉ β) → PostR X.K β H h' r' Q → rr [v1] H Q
theorem b1_read {f : Value} {b : B1} {rr : List V → AHp → VK → Prop} {a : E} (B : B1R X f b rr) (σ : St) (H : AHp) (Q : VK) (q : tE C X.K (.b1 b a) σ H Q) : tCB rr (tA C X.K (.cons a .nil)) σ H Q := by
  obtain ⟨β, ρ, h, r, h', ee, ok, e, p⟩ := q
  simp only [ev] at e
  obtain ⟨r1, h1, e1, e⟩ := bind_ok e
  refine ⟨β, ρ, h, [r1], h1, ee, ok, by simp only [evs, e1, R.bind], fun vs H1 β1 F ok1 x1 R1 nd f => ?_⟩
  obtain ⟨v, t, F1, F2, rfl, rfl, R1, rfl, rfl⟩ := R1
  exact B.of ok1 e R1 (fun a m => (f a (by simp [m])).1) (p.later ok1 x1)
theorem s_b1B {b : B1} {id : String} {x : Str} {rr : List V → AHp → VK → Prop} {a : E} {pa : Expr} {pp pos : Pos} (B : B1R X (.builtin id) b rr) (hg : Gl X x) (hm : X.mg x = none) (hv : bootBuiltins x = some (.builtin id)) (ha : PE X pa (tE C X.K a))
    (hs : starEach [pa] X.env = (false, eval pa X.env) :: starEach [] X.env) (hn : x ≠ "__name__") (hd : (x == ("__debug__" : Str)) = false) : PE X (.Call (.Name x pp) [pa] [] pos) (tE C X.K (.b1 b a)) :=
  imE (pe_callB B.run hg hm hv (a_cons ha a_nil hs) hn hd hs rfl) (b1_read B)
theorem s_b1T {b : B1} {T : String} {x : Str} {rr : List V → AHp → VK → Prop} {a : E} {pa : Expr} {pp pos : Pos} (B : B1R X (.type T) b rr) (hg : Gl X x) (hm : X.mg x = none) (hv : bootBuiltins x = some (.type T)) (ha : PE X pa (tE C X.K a))
    (hs : starEach [pa] X.env = (false, eval pa X.env) :: starEach [] X.env) (hn : x ≠ "__name__") (hd : (x == ("__debug__" : Str)) = false) : PE X (.Call (.Name x pp) [pa] [] pos) (tE C X.K (.b1 b a)) :=
  imE (pe_callTy B.run hg hm hv (a_cons ha a_nil hs) hn hd hs rfl) (b1_read B)
theorem lenO_ok {o : O} {a : Addr} (ob : ObjR K β H o a) : (∃ ds vs, o = .lst ds ∧ SqL K H a vs ∧ ds.length = vs.length) ∨ (∃ kvs l, o = .dk kvs ∧ H a = some (.dK l) ∧ kvs.length = l.length) ∨ ∃ kvs l, o = .dt kvs ∧ H a = some (.dT l) ∧ kvs.length = l.length := by
  cases o with
  | lst ds => obtain ⟨vs, e, q⟩ := ob; exact .inl ⟨ds, vs, rfl, SqL.of e, q.length⟩
  | dk kvs =>
    obtain ⟨l, e, q⟩ := ob
    refine .inr (.inl ⟨kvs, l, rfl, e, ?_⟩)
    clear e
    induction kvs generalizing l with
    | nil => have q' : l = [] := q; subst q'; rfl
    | cons p r ih => obtain ⟨k, v, t, rfl, _, _, q⟩ := q; simp only [List.length_cons, ih t q]
  | dt kvs =>
    obtain ⟨l, e, q⟩ := ob
    refine .inr (.inr ⟨kvs, l, rfl, e, ?_⟩)
    clear e
    induction kvs generalizing l with
    | nil => have q' : l = [] := q; subst q'; rfl
    | cons p r ih => obtain ⟨k, v, t, rfl, _, _, q⟩ := q; simp only [List.length_cons, ih t q]
def rLenX (K : Frag) : List V → AHp → VK → Prop := fun xs H Q => (∃ x n, xs = [x] ∧ LenV K x H n ∧ Q (.int n) H) ∨ ((∃ a kvs, xs = [V.ref a] ∧ H a = some (.dK kvs) ∧ Q (.int kvs.length) H) ∨ rLenT xs H Q)
theorem b1_len : B1R X (.builtin "len") .len (rLenX X.K) := ⟨CallR.or call_len (CallR.or call_lenD call_len_dT), fun {β H h h' r1 r' v1 F1 Q} ok e R1 nf p => by
  simp only [b1V] at e
  obtain ⟨e1, rfl⟩ := opt_ok e
  have ob : ∀ {o : O} {n : Nat}, objOf h' r1 = some o → (match o with | .lst xs => some xs.length | .dk kvs => some kvs.length | .dt kvs => some kvs.length) = some n → r' = .val (.int n) → rLenX X.K [v1] H Q := fun {o n} e2 e3 er => by
    subst er
    obtain ⟨a, rfl, ob⟩ := objOf_ok ok R1 e2
    rcases lenO_ok ob with ⟨ds, vs, rfl, s, l⟩ | ⟨kvs, q, rfl, s, l⟩ | ⟨kvs, q, rfl, s, l⟩
    · cases e3
      exact .inl ⟨_, _, rfl, .inl ⟨vs, s, rfl⟩, by rw [← l]; exact p.val ok Ext.refl (mkInt _)⟩
    · cases e3
      exact .inr (.inl ⟨a, q, rfl, s, by rw [← l]; exact p.val ok Ext.refl (mkInt _)⟩)
    · cases e3
      exact .inr (.inr ⟨a, q, rfl, s, by rw [← l]; exact p.val ok Ext.refl (mkInt _)⟩)
  cases r1 with
  | new o =>
    cases o with
    | lst xs =>
      simp only [lenOf, Option.bind] at e1
      split at e1
      · exact ob rfl rfl (Option.some.inj e1).symm
      · cases e1
    | dk xs =>
      simp only [lenOf, Option.bind] at e1
      split at e1
      · exact ob rfl rfl (Option.some.inj e1).symm
      · cases e1
    | dt xs =>
      simp only [lenOf, Option.bind] at e1
      split at e1
      · exact ob rfl rfl (Option.some.inj e1).symm
      · cases e1
  | val d =>
    cases d with
    | tup xs =>
      simp only [lenOf, Option.bind] at e1
      split at e1
      · obtain ⟨a, vs, rfl, s, q⟩ := Rel.tup R1
        cases e1
        exact .inl ⟨_, _, rfl, .inr ⟨vs, SqT.of s, rfl⟩, by rw [← q.length]; exact p.val ok Ext.refl (mkInt _)⟩
      · cases e1
    | ktup xs =>
      simp only [lenOf, Option.bind] at e1
      split at e1
      · obtain ⟨a, vs, rfl, s, q⟩ := Rel.ktup R1
        cases e1
        exact .inl ⟨_, _, rfl, .inr ⟨vs, s, rfl⟩, by rw [← q.length]; exact p.val ok Ext.refl (mkInt _)⟩
      · cases e1
    | rol xs =>
      simp only [lenOf, Option.bind] at e1
      split at e1
      · obtain ⟨a, vs, rfl, s, q⟩ := Rel.rol R1
        cases e1
        exact .inl ⟨_, _, rfl, .inl ⟨vs, s.sq, rfl⟩, by rw [← q.length]; exact p.val ok Ext.refl (mkInt _)⟩
      · cases e1
    | str s =>
      simp only [lenOf, Option.bind] at e1
      split at e1
      · rename_i hl
        cases e1
        rw [Rel.str R1]
        refine .inl ⟨_, (tx s).length, rfl, ⟨by rw [tx_length, ← lim_eq]; exact hl, rfl⟩, ?_⟩
        rw [tx_length]
        exact p.val ok Ext.refl (mkInt _)
      · cases e1
    | ref n =>
      cases q : h'[n]? with
      | none => simp only [lenOf, q] at e1; cases e1
      | some o =>
        simp only [lenOf, q, Option.bind] at e1
        cases o with
        | lst xs =>
          simp only at e1
          split at e1
          · exact ob (o := .lst xs) q rfl (Option.some.inj e1).symm
          · cases e1
        | dk xs =>
          simp only at e1
          split at e1
          · exact ob (o := .dk xs) q rfl (Option.some.inj e1).symm
          · cases e1
        | dt xs =>
          simp only at e1
          split at e1
          · exact ob (o := .dt xs) q rfl (Option.some.inj e1).symm
          · cases e1
    | _ => cases e1⟩
theorem tx_cps (z : Str) : tx z.cps.toList = z := by
  unfold tx
  simp
theorem b1_int : B1R X (.type "int") .int (fun xs H Q => (∃ i, xs = [.int i] ∧ Q (.int i) H) ∨ ∃ k, xs = [.bl k] ∧ Q (.int (if k then 1 else 0)) H) := ⟨call_int1, fun {β H h h' r1 r' v1 F1 Q} ok e R1 nf p => by
  cases r1 with
  | new o => simp [b1V] at e
  | val d =>
    cases d with
    | int i => simp only [b1V] at e; cases e; exact .inl ⟨i, by rw [Rel.int R1], p.val ok Ext.refl (mkInt _)⟩
    | bl b => simp only [b1V] at e; cases e; exact .inr ⟨b, by rw [Rel.bl R1], p.val ok Ext.refl (mkInt _)⟩
    | _ => simp [b1V] at e⟩
theorem b1_abs : B1R X (.builtin "abs") .abs (fun xs H Q => ∃ i, xs = [.int i] ∧ Q (.int (if i < 0 then -i else i)) H) := ⟨call_abs, fun {β H h h' r1 r' v1 F1 Q} ok e R1 nf p => by
  cases r1 with
  | new o => simp [b1V] at e
  | val d =>
    cases d with
    | int i => simp only [b1V] at e; cases e; exact ⟨i, by rw [Rel.int R1], p.val ok Ext.refl (mkInt _)⟩
    | _ => simp [b1V] at e⟩
theorem b1_ord : B1R X (.builtin "ord") .ord (fun xs H Q => ∃ x, xs = [.str x] ∧ x.length = 1 ∧ Q (.int (x.cps.getD 0 0 : Nat)) H) := ⟨call_ord, fun {β H h h' r1 r' v1 F1 Q} ok e R1 nf p => by
  cases r1 with
  | new o => simp [b1V] at e
  | val d =>
    cases d with
    | str s =>
      cases s with
      | nil => simp [b1V] at e
      | cons c t =>
        cases t with
        | cons _ _ => simp [b1V] at e
        | nil =>
          simp only [b1V] at e
          cases e
          refine ⟨tx [c], by rw [Rel.str R1], rfl, ?_⟩
          exact p.val ok Ext.refl (mkInt _)
    | _ => simp [b1V] at e⟩
theorem b1_str : B1R X (.type "str") .str (fun xs H Q => (∃ i, xs = [.int i] ∧ i.natAbs.log2 < 1920 ∧ Q (.str (toString i)) H) ∨ ∃ a, xs = [.str a] ∧ Q (.str a) H) := ⟨CallR.or call_str_int SkE.call_str_str, fun {β H h h' r1 r' v1 F1 Q} ok e R1 nf p => by
  cases r1 with
  | new o => simp [b1V] at e
  | val d =>
    cases d with
    | int i =>
      simp only [b1V] at e
      obtain ⟨e1, rfl, rfl⟩ := when_ok e
      refine .inl ⟨i, by rw [Rel.int R1], of_decide_eq_true e1, ?_⟩
      have := p.val ok Ext.refl (mkStr (intS i))
      unfold intS at this
      rwa [tx_cps] at this
    | str s => simp only [b1V] at e; cases e; exact .inr ⟨_, by rw [Rel.str R1], p.val ok Ext.refl (mkStr _)⟩
    | _ => simp [b1V] at e⟩
theorem ints_ok : ∀ {ds : List D} {is : List Int} {vs : List V}, intsOf ds = some is → Rels K β H ds vs → vs = is.map V.int
  | [], is, vs, e, q => by simp only [Rels] at q; subst q; cases e; rfl
  | d :: ds, is, vs, e, q => by
    cases d with
    | int i =>
      simp only [intsOf] at e
      obtain ⟨t, e1, rfl⟩ := map_some e
      simp only [Rels] at q
      obtain ⟨v, r, rfl, q1, q2⟩ := q
      simp only [Rel] at q1
      subst q1
      rw [ints_ok e1 q2]
      rfl
    | _ => cases e
theorem bools_ok : ∀ {ds : List D} {is : List Bool} {vs : List V}, boolsOf ds = some is → Rels K β H ds vs → vs = is.map V.bl
  | [], is, vs, e, q => by simp only [Rels] at q; subst q; cases e; rfl
  | d :: ds, is, vs, e, q => by
    cases d with
    | bl i =>
      simp only [boolsOf] at e
      obtain ⟨t, e1, rfl⟩ := map_some e
      simp only [Rels] at q
      obtain ⟨v, r, rfl, q1, q2⟩ := q
      simp only [Rel] at q1
      subst q1
      rw [bools_ok e1 q2]
      rfl
    | _ => cases e
theorem sumI_ok : ∀ {ds : List D} {n : Int}, sumI ds = some n → ∃ is, intsOf ds = some is ∧ n = is.sum
  | [], n, e => by cases e; exact ⟨[], rfl, rfl⟩
  | d :: ds, n, e => by
    cases d with
    | int i =>
      simp only [sumI] at e
      obtain ⟨t, e1, rfl⟩ := map_some e
      obtain ⟨is, e2, rfl⟩ := sumI_ok e1
      exact ⟨i :: is, by simp only [intsOf, e2, Option.map], by simp⟩
    | _ => cases e
theorem bind_some {α γ : Type} {o : Option α} {f : α → Option γ} {b : γ} (e : o.bind f = some b) : ∃ a, o = some a ∧ f a = some b := by
  cases o with
  | none => cases e
  | some a => exact ⟨a, rfl, e⟩
/-! ### over tuples of ints -/
section
variable {prog : Program} {w : World} {A : Around} {E : Value → Shared → Prop} {s : Shared} {l : Addr} {xs : Array (Int × Tok)}
theorem it_T {Q : Value → Shared → Prop} (hl : s.heap.IsTuple l (intItems xs))
    (h : ∀ s₂ : Shared, s₂ = { s with heap := s.heap.push { cls := .type "tuple_iterator", data := .fields #[.ref l, .int 0 0] } } →
      (s₂.heap.IsTupleIter s.heap.objs.size l 0 ∧ s₂.heap.IsTuple l (intItems xs)) → (∀ b ∈ [s.heap.objs.size, l], b < s₂.heap.objs.size) → l ≠ s.heap.objs.size → Q (.ref s.heap.objs.size) s₂) :
    wpAny (model prog w) A (pyIter (.ref l)) Q E s := by
  have hlt : l < s.heap.objs.size := by obtain ⟨_, e, _⟩ := hl; exact Heap.lt_size e
  refine wpAny_pyIter_tuple hl (h _ rfl ⟨⟨_, Heap.get?_push_size _ rfl, rfl, rfl⟩, hl.at fun o e => Heap.get?_push_of_some _ e⟩ (fun b hb => ?_) (Nat.ne_of_lt hlt))
  show b < (s.heap.push _).objs.size
  rw [Heap.size_push]
  rcases List.mem_cons.mp hb with rfl | hb
  · exact Nat.lt_succ_self _
  · rcases List.mem_cons.mp hb with rfl | hb
    · exact Nat.lt_succ_of_lt hlt
    · cases hb
theorem kept_T {h' : Heap} (hk : ∀ b o, b ∉ [s.heap.objs.size] → (s.heap.push { cls := .type "tuple_iterator", data := .fields #[.ref l, .int 0 0] }).get? b = some o → h'.get? b = some o) :
    ∀ b o, s.heap.get? b = some o → h'.get? b = some o := fun b o e => by
  refine hk b o (fun hm => ?_) (Heap.get?_push_of_some _ e)
  rcases List.mem_cons.mp hm with e1 | hm
  · exact absurd (e1 ▸ Heap.lt_size e) (Nat.lt_irrefl _)
  · cases hm
theorem sum_T0 {Q : Value → Shared → Prop} (hh : A.handled = none) (hl : s.heap.IsTuple l (intItems xs))
    (h : ∀ h' tk t', (∀ b o, s.heap.get? b = some o → h'.get? b = some o) → Q (.int (preSum (numAt xs) xs.size) t') { s with heap := h', toks := tk }) :
    wpAny (model prog w) A (call (.builtin "sum") [.ref l]) Q E s := by
  refine call_sum_walkG (it_T hl fun s₂ e st hfp hlI => ?_)
  subst e
  refine ⟨_, _, _, _, _, _, numAt xs, rfl, Walks.tuple (A := A.in1) hh _ l hlI (intItems xs), st, hfp, (fun _ _ => intItems_at), fun h' tk t' hk => ?_⟩
  have := h h' tk t' (kept_T hk)
  simpa [intItems] using this
theorem max_T0 {Q : Value → Shared → Prop} (hh : A.handled = none) (hl : s.heap.IsTuple l (intItems xs)) (hne : 0 < xs.size)
    (h : ∀ v h' tk, (intItems xs)[argBest (fun i j => decide (numAt xs i > numAt xs j)) (xs.size - 1)]? = some v → (∀ b o, s.heap.get? b = some o → h'.get? b = some o) → Q v { s with heap := h', toks := tk }) :
    wpAny (model prog w) A (call (.builtin "max") [.ref l]) Q E s := by
  refine call_max_walk (it_T hl fun s₂ e st hfp hlI => ?_)
  subst e
  refine ⟨_, _, _, _, _, _, _, rfl, Walks.tuple (A := A.in1) hh _ l hlI (intItems xs), st, hfp, by simpa [intItems] using hne, CmpOf.ints_gt (numAt xs) (fun _ _ => intItems_at), fun v h' tk hP hk => ?_⟩
  exact h v h' tk (by simpa [intItems] using hP) (kept_T hk)
theorem min_T0 {Q : Value → Shared → Prop} (hh : A.handled = none) (hl : s.heap.IsTuple l (intItems xs)) (hne : 0 < xs.size)
    (h : ∀ v h' tk, (intItems xs)[argBest (fun i j => decide (numAt xs i < numAt xs j)) (xs.size - 1)]? = some v → (∀ b o, s.heap.get? b = some o → h'.get? b = some o) → Q v { s with heap := h', toks := tk }) :
    wpAny (model prog w) A (call (.builtin "min") [.ref l]) Q E s := by
  refine call_min_walk (it_T hl fun s₂ e st hfp hlI => ?_)
  subst e
  refine ⟨_, _, _, _, _, _, _, rfl, Walks.tuple (A := A.in1) hh _ l hlI (intItems xs), st, hfp, by simpa [intItems] using hne, CmpOf.ints_lt (numAt xs) (fun _ _ => intItems_at), fun v h' tk hP hk => ?_⟩
  exact h v h' tk (by simpa [intItems] using hP) (kept_T hk)
variable {its : List Value} {ns : List Int} {Q : Value → Shared → Prop}
theorem sum_T (hh : A.handled = none) (hl : s.heap.IsTuple l its.toArray) (hi : PyProof.Rows.IntsAre its ns)
    (h : ∀ h' tk t', (∀ b o, s.heap.get? b = some o → h'.get? b = some o) → Q (.int ns.sum t') { s with heap := h', toks := tk }) : wpAny (model prog w) A (call (.builtin "sum") [.ref l]) Q E s := by
  obtain ⟨xs, e⟩ := hi.allInts.items
  have hn : numsOf (intItems xs).toList = ns := by rw [← e]; exact hi.numsOf
  rw [nums_intItems] at hn
  rw [e] at hl
  refine sum_T0 hh hl fun h' tk t' hk => ?_
  have := h h' tk t' hk
  rw [preSum_eq, List.take_of_length_le (by simp), hn]; exact this
theorem max_T (hh : A.handled = none) (hl : s.heap.IsTuple l its.toArray) (hi : PyProof.Rows.IntsAre its ns) (hne : 0 < ns.length)
    (h : ∀ h' tk M t', (∀ b o, s.heap.get? b = some o → h'.get? b = some o) → M ∈ ns → (∀ a, a ∈ ns → a ≤ M) → Q (.int M t') { s with heap := h', toks := tk }) : wpAny (model prog w) A (call (.builtin "max") [.ref l]) Q E s := by
  obtain ⟨xs, e⟩ := hi.allInts.items
  have hn : numsOf (intItems xs).toList = ns := by rw [← e]; exact hi.numsOf
  rw [nums_intItems] at hn
  subst hn
  rw [e] at hl
  have hsz : 0 < xs.size := by simpa using hne
  refine max_T0 hh hl hsz fun v h' tk hv hk => ?_
  obtain ⟨t, rfl⟩ := intItems_at hv
  obtain ⟨h1, h2⟩ := argBest_gt (numAt xs) (xs.size - 1)
  refine h h' tk _ t hk ?_ fun a ha => ?_
  · rw [numAt_eq]; exact PySem.getD_mem (by rw [List.length_map, Array.length_toList]; omega)
  · obtain ⟨j, hj, rfl⟩ := mem_getD ha
    rw [List.length_map, Array.length_toList] at hj
    rw [← numAt_eq]; exact h2 j (by omega)
theorem min_T (hh : A.handled = none) (hl : s.heap.IsTuple l its.toArray) (hi : PyProof.Rows.IntsAre its ns) (hne : 0 < ns.length)
    (h : ∀ h' tk M t', (∀ b o, s.heap.get? b = some o → h'.get? b = some o) → M ∈ ns → (∀ a, a ∈ ns → M ≤ a) → Q (.int M t') { s with heap := h', toks := tk }) : wpAny (model prog w) A (call (.builtin "min") [.ref l]) Q E s := by
  obtain ⟨xs, e⟩ := hi.allInts.items
  have hn : numsOf (intItems xs).toList = ns := by rw [← e]; exact hi.numsOf
  rw [nums_intItems] at hn
  subst hn
  rw [e] at hl
  have hsz : 0 < xs.size := by simpa using hne
  refine min_T0 hh hl hsz fun v h' tk hv hk => ?_
  obtain ⟨t, rfl⟩ := intItems_at hv
  obtain ⟨h1, h2⟩ := argBest_lt (numAt xs) (xs.size - 1)
  refine h h' tk _ t hk ?_ fun a ha => ?_
  · rw [numAt_eq]; exact PySem.getD_mem (by rw [List.length_map, Array.length_toList]; omega)
  · obtain ⟨j, hj, rfl⟩ := mem_getD ha
    rw [List.length_map, Array.length_toList] at hj
    rw [← numAt_eq]; exact h2 j (by omega)
end
def rSumT (K : Frag) : List V → AHp → VK → Prop := fun vs H Q => ∃ (a : Addr) (ns : List Int), vs = [V.ref a] ∧ SqT K H a (ns.map V.int) ∧ Q (.int ns.sum) H
def rMaxT (K : Frag) : List V → AHp → VK → Prop := fun vs H Q => ∃ (a : Addr) (ns : List Int), vs = [V.ref a] ∧ SqT K H a (ns.map V.int) ∧ 0 < ns.length ∧ ∀ m, m ∈ ns → (∀ y, y ∈ ns → y ≤ m) → Q (.int m) H
def rMinT (K : Frag) : List V → AHp → VK → Prop := fun vs H Q => ∃ (a : Addr) (ns : List Int), vs = [V.ref a] ∧ SqT K H a (ns.map V.int) ∧ 0 < ns.length ∧ ∀ m, m ∈ ns → (∀ y, y ∈ ns → m ≤ y) → Q (.int m) H
theorem cr_sumT (hc : X.calm = true) : CallR X (.builtin "sum") (rSumT X.K) := by
  intro pins s σ H vs us Q I r h
  obtain ⟨a, ns, rfl, hs, q⟩ := h
  obtain ⟨its, rv, hl, _⟩ := I.tuple hs
  rw [Vals.ref1 r]
  exact sum_T (I.ok.hd hc) (show s.heap.IsTuple a its.toArray from hl) rv.ints fun h' tk t' hk => ⟨.int _, H, I.kept hk, ⟨_, rfl⟩, q⟩
theorem cr_maxT (hc : X.calm = true) : CallR X (.builtin "max") (rMaxT X.K) := by
  intro pins s σ H vs us Q I r h
  obtain ⟨a, ns, rfl, hs, hne, q⟩ := h
  obtain ⟨its, rv, hl, _⟩ := I.tuple hs
  rw [Vals.ref1 r]
  exact max_T (I.ok.hd hc) (show s.heap.IsTuple a its.toArray from hl) rv.ints hne fun h' tk m t' hk h1 h2 => ⟨.int _, H, I.kept hk, ⟨_, rfl⟩, q m h1 h2⟩
theorem cr_minT (hc : X.calm = true) : CallR X (.builtin "min") (rMinT X.K) := by
  intro pins s σ H vs us Q I r h
  obtain ⟨a, ns, rfl, hs, hne, q⟩ := h
  obtain ⟨its, rv, hl, _⟩ := I.tuple hs
  rw [Vals.ref1 r]
  exact min_T (I.ok.hd hc) (show s.heap.IsTuple a its.toArray from hl) rv.ints hne fun h' tk m t' hk h1 h2 => ⟨.int _, H, I.kept hk, ⟨_, rfl⟩, q m h1 h2⟩
theorem ltOf_ok {r : Rv} {v : V} {F : List Addr} {ds : List D} (ok : HpOk K β H h) (R1 : RelR K β H r v F) (e : ltOf h r = some ds) : ∃ a vs, v = .ref a ∧ (SqL K H a vs ∨ SqT K H a vs) ∧ Rels K β H ds vs := by
  have ls : lstOf h r = some ds → ∃ a vs, v = .ref a ∧ (SqL K H a vs ∨ SqT K H a vs) ∧ Rels K β H ds vs := fun e => by
    obtain ⟨a, vs, rfl, s, q⟩ := lstOf_ok ok R1 e
    exact ⟨a, vs, rfl, .inl s, q⟩
  cases r with
  | new o => exact ls e
  | val d =>
    cases d with
    | tup xs =>
      cases e
      obtain ⟨a, vs, rfl, s, q⟩ := Rel.tup R1
      exact ⟨a, vs, rfl, .inr (SqT.of s), q⟩
    | ktup xs =>
      cases e
      obtain ⟨a, vs, rfl, s, q⟩ := Rel.ktup R1
      exact ⟨a, vs, rfl, .inr s, q⟩
    | _ => exact ls e
theorem b1_sum (hc : X.calm = true) : B1R X (.builtin "sum") .sum (fun vs H Q => rSum X.K vs H Q ∨ rSumT X.K vs H Q) := ⟨CallR.or (cr_sum hc) (cr_sumT hc), fun {β H h h' r1 r' v1 F1 Q} ok e R1 nf p => by
  simp only [b1V] at e
  obtain ⟨e1, rfl⟩ := opt_ok e
  obtain ⟨ds, e2, e3⟩ := bind_some e1
  obtain ⟨n, e4, rfl⟩ := map_some e3
  obtain ⟨is, e5, rfl⟩ := sumI_ok e4
  obtain ⟨a, vs, rfl, s, q⟩ := ltOf_ok ok R1 e2
  have := ints_ok e5 q
  subst this
  rcases s with s | s
  · exact .inl ⟨a, is, rfl, s, p.val ok Ext.refl (mkInt _)⟩
  · exact .inr ⟨a, is, rfl, s, p.val ok Ext.refl (mkInt _)⟩⟩
theorem b1_all (hc : X.calm = true) : B1R X (.builtin "all") .all (rAll X.K) := ⟨cr_all hc, fun {β H h h' r1 r' v1 F1 Q} ok e R1 nf p => by
  simp only [b1V] at e
  obtain ⟨e1, rfl⟩ := opt_ok e
  obtain ⟨ds, e2, e3⟩ := bind_some e1
  obtain ⟨n, e4, rfl⟩ := map_some e3
  obtain ⟨a, vs, rfl, s, q⟩ := lstOf_ok ok R1 e2
  have := bools_ok e4 q
  subst this
  exact ⟨a, n, rfl, s, p.val ok Ext.refl (mkBl _)⟩⟩
theorem b1_any (hc : X.calm = true) : B1R X (.builtin "any") .any (rAny X.K) := ⟨cr_any hc, fun {β H h h' r1 r' v1 F1 Q} ok e R1 nf p => by
  simp only [b1V] at e
  obtain ⟨e1, rfl⟩ := opt_ok e
  obtain ⟨ds, e2, e3⟩ := bind_some e1
  obtain ⟨n, e4, rfl⟩ := map_some e3
  obtain ⟨a, vs, rfl, s, q⟩ := lstOf_ok ok R1 e2
  have := bools_ok e4 q
  subst this
  exact ⟨a, n, rfl, s, p.val ok Ext.refl (mkBl _)⟩⟩
/-! ### list, tuple -/
theorem kv_keys : ∀ {kvs : List (D × D)} {l : List (Key × V)}, kvR K β H kvs l → Rels K β H (kvs.map (·.1)) (l.map fun kv => kV kv.1)
  | [], l, q => by have q' : l = [] := q; subst q'; exact Rels.nil
  | (d, e) :: r, l, q => by
    obtain ⟨k, v, t, rfl, q1, q2, q3⟩ := q
    refine Rels.cons ?_ (kv_keys q3)
    cases d with
    | int i => have q1' : k = .inl i := q1; subst q1'; exact mkInt i
    | str s => have q1' : k = .inr (tx s) := q1; subst q1'; exact mkStr s
    | _ => exact q1.elim
def rListS : List V → AHp → VK → Prop := fun xs H Q => ∃ z : List Nat, xs = [.str (tx z)] ∧ z.length ≤ 16777216 ∧ ∀ q, H q = none → Q (.ref q) (upd H q (.lst (z.map fun c => .str (tx [c]))))
theorem call_list_s (hc : X.calm = true) : CallR X (.type "list") rListS := by
  intro pins s σ H xs us Q I r h
  obtain ⟨z, e, hz, q⟩ := h
  subst e
  obtain ⟨u, eu, rx⟩ := vals1 r
  subst eu
  obtain ⟨t, rfl⟩ := rx
  have sz : (tx z).cps.size = z.length := by show (z.toArray).size = _; simp
  refine call_list_str (I.ok.hd hc) (tx z) t (fun h' tk acc' c' hkeep hS hacc => ?_) (by rw [sz, sizeLine_eq]; exact hz)
  refine ⟨.ref s.heap.objs.size, upd H s.heap.objs.size (.lst (z.map fun c => .str (tx [c]))), I.laid hkeep (Nat.le_refl _) (show ObjOk X.prog X.w _ _ _ (.lst (z.map fun c => .str (tx [c]))) from ⟨?_, acc'.toList, c', ?_, ?_⟩), rfl, q _ (I.hok.fresh (Nat.le_refl _))⟩
  · rw [List.length_map, sizeLine_eq]; exact hz
  · have el : acc'.toList.length = acc'.size := by simp
    refine vals_of_at (by rw [List.length_map, el, hacc.1, sz]) fun j x w h1 h2 => ?_
    obtain ⟨c, u, hcx, rfl⟩ := hacc.2 j w (by rw [← Array.getElem?_toList]; exact h2)
    have e1 : z[j]? = some c := by
      have : (z.toArray)[j]? = some c := hcx
      simpa using this
    rw [List.getElem?_map, e1] at h1
    cases h1
    exact ⟨u, rfl⟩
  · rw [Array.toArray_toList]; exact hS
theorem rels_chars : ∀ z : List Nat, Rels K β H (chars z) (z.map fun c => V.str (tx [c]))
  | [] => Rels.nil
  | c :: z => Rels.cons (mkStr [c]) (rels_chars z)
def rListX (K : Frag) : List V → AHp → VK → Prop := fun xs H Q => (∃ p ys, xs = [.ref p] ∧ (SqL K H p ys ∨ SqT K H p ys) ∧ ∀ l, H l = none → Q (.ref l) (upd H l (.lst ys))) ∨ (rListD xs H Q ∨ rListS xs H Q)
theorem b1_list (hc : X.calm = true) : B1R X (.type "list") .list (rListX X.K) := ⟨CallR.or call_list_of (CallR.or (call_list_dK hc) (call_list_s hc)), fun {β H h h' r1 r' v1 F1 Q} ok e R1 nf p => by
  simp only [b1V] at e
  obtain ⟨e1, rfl⟩ := opt_ok e
  obtain ⟨ds, e2, rfl⟩ := map_some e1
  have ob : ∀ {o : O}, objOf h' r1 = some o → (∃ xs, o = .lst xs ∧ ds = xs) ∨ (∃ kvs, o = .dk kvs ∧ ds = kvs.map (·.1)) → rListX X.K [v1] H Q := fun {o} e3 e4 => by
    obtain ⟨a, rfl, ob⟩ := objOf_ok ok R1 e3
    rcases e4 with ⟨xs, rfl, rfl⟩ | ⟨kvs, rfl, rfl⟩
    · obtain ⟨vs, s, q⟩ := ob
      exact .inl ⟨a, vs, rfl, .inl (SqL.of s), fun t ht => p.newL ok Ext.refl ht q⟩
    · obtain ⟨l, s, q⟩ := ob
      exact .inr (.inl ⟨a, l, rfl, s, fun t ht => p.newL ok Ext.refl ht (kv_keys q)⟩)
  cases r1 with
  | new o =>
    cases o with
    | lst xs => cases e2; exact ob rfl (.inl ⟨_, rfl, rfl⟩)
    | _ => cases e2
  | val d =>
    cases d with
    | tup xs =>
      cases e2
      obtain ⟨a, vs, rfl, s, q⟩ := Rel.tup R1
      exact .inl ⟨a, vs, rfl, .inr (SqT.of s), fun t ht => p.newL ok Ext.refl ht q⟩
    | ktup xs =>
      cases e2
      obtain ⟨a, vs, rfl, s, q⟩ := Rel.ktup R1
      exact .inl ⟨a, vs, rfl, .inr s, fun t ht => p.newL ok Ext.refl ht q⟩
    | rol xs =>
      cases e2
      obtain ⟨a, vs, rfl, s, q⟩ := Rel.rol R1
      exact .inl ⟨a, vs, rfl, .inl s.sq, fun t ht => p.newL ok Ext.refl ht q⟩
    | ref n =>
      cases q : h'[n]? with
      | none => simp only [seqV, q] at e2; cases e2
      | some o =>
        simp only [seqV, q, Option.bind] at e2
        cases o with
        | lst xs => cases e2; exact ob (o := .lst _) q (.inl ⟨_, rfl, rfl⟩)
        | dk kvs => cases e2; exact ob (o := .dk kvs) q (.inr ⟨_, rfl, rfl⟩)
        | dt kvs => cases e2
    | str z =>
      simp only [seqV] at e2
      split at e2
      · rename_i hz
        cases e2
        rw [Rel.str R1]
        exact .inr (.inr ⟨z, rfl, hz, fun t ht => p.newL ok Ext.refl ht (rels_chars z)⟩)
      · cases e2
    | _ => cases e2⟩
def rTupX (K : Frag) : List V → AHp → VK → Prop := fun xs H Q => ∃ p ys, xs = [.ref p] ∧ ((SqL K H p ys ∧ ∀ l, H l = none → Q (.ref l) (upd H l (.tup ys))) ∨ (SqT K H p ys ∧ Q (.ref p) H))
theorem b1_tuple : B1R X (.type "tuple") .tuple (rTupX X.K) := ⟨call_tuple_of, fun {β H h h' r1 r' v1 F1 Q} ok e R1 nf p => by
  simp only [b1V] at e
  have lst : ∀ {ds : List D}, lstOf h r1 = some ds → R.ok (Rv.val (.tup ds)) h = R.ok r' h' → rTupX X.K [v1] H Q := fun {ds} e2 e3 => by
    cases e3
    obtain ⟨a, vs, rfl, s, q⟩ := lstOf_ok ok R1 e2
    refine ⟨a, vs, rfl, .inl ⟨s, fun t ht => ?_⟩⟩
    have y : Ext β H β (upd H t (.tup vs)) := Ext.new ht
    exact p.val (ok.new ht) y (mkTup upd_same (q.mono (Kp.of ok y) _ _))
  split at e
  · rename_i xs
    cases e
    obtain ⟨a, vs, rfl, s, q⟩ := Rel.tup R1
    exact ⟨a, vs, rfl, .inr ⟨SqT.of s, p.val ok Ext.refl (mkTup s q)⟩⟩
  · obtain ⟨e1, rfl⟩ := opt_ok e
    obtain ⟨ds, e2, rfl⟩ := map_some e1
    exact lst e2 rfl⟩
end
end G

/-! G10: repr, sorted, min, max, isinstance, methods. -/
namespace G
open PySem PySem.Spec L2
section
variable {X : Cx} {C : Nat → List D → Hp → R Rv} {K : Frag} {σ : St} {ρ : Env} {β : List Addr} {H : AHp} {h h1 h2 h' : Hp} {r r1 r2 : Rv} {Q : VK}
/-! ### repr -/
def rReprD (K : Frag) : List V → AHp → VK → Prop := fun xs H Q => ∃ x p, xs = [x] ∧ Dp K H x p ∧ p.showable = true ∧ p.hasDict = false ∧ p.depth ≤ 60 ∧ p.shown.length ≤ sizeLine ∧ Q (.str p.shown) H
theorem none_repr : (PyData.none).shown = ("None" : Str) := by simp [PyData.shown]
theorem call_reprD (hg : X.A.guards = some []) (hu : X.A.units + 64 < cLine) : CallR X (.builtin "repr") (rReprD X.K) := by
  intro pins s σ H xs us Q I r q
  obtain ⟨x, p, rfl, d, sh, nd, dp, sz, q⟩ := q
  obtain ⟨u, rfl, rx⟩ := vals1 r
  obtain ⟨as, rd⟩ := Dp.reads I p x u d rx
  cases d with
  | non =>
    cases rx
    refine PySem.P.repr_of_none ?_
    simp only [PyData.shown] at q
    exact ⟨.str _, H, I.tok _, ⟨_, rfl⟩, q⟩
  | bl b =>
    cases rx
    refine PySem.P.repr_of_bool ?_
    simp only [PyData.shown] at q
    exact ⟨.str _, H, I.tok _, ⟨_, rfl⟩, q⟩
  | int i =>
    obtain ⟨t, rfl⟩ := rx
    simp only [PyData.shown] at q
    simp only [PyData.showable, decide_eq_true_eq] at sh
    exact PySem.P.repr_of_int sh ⟨.str _, H, I.tok _, ⟨_, rfl⟩, q⟩
  | str z =>
    obtain ⟨t, rfl⟩ := rx
    simp only [PyData.shown] at q sz
    exact PySem.P.repr_of_str ⟨.str _, H, I.tok _, ⟨_, rfl⟩, q⟩ sz
  | lst sq all =>
    cases rx
    exact repr_of_reads' rd sh (fun z => by rw [nd] at z; cases z) hg (by omega) (fun _ _ z => z) (fun h' t tk k => ⟨.str _, H, I.kept k, ⟨_, rfl⟩, q⟩) sz
  | tup sq all =>
    cases rx
    exact repr_of_reads' rd sh (fun z => by rw [nd] at z; cases z) hg (by omega) (fun _ _ z => z) (fun h' t tk k => ⟨.str _, H, I.kept k, ⟨_, rfl⟩, q⟩) sz
theorem noDict_map (f : D → PyData) : ∀ xs : List D, (∀ x ∈ xs, (f x).hasDict = false) → PyData.hasDictAll (xs.map f) = false
  | [], _ => by simp [PyData.hasDictAll]
  | x :: xs, k => by
    simp only [List.map_cons, PyData.hasDictAll, k x (by simp), Bool.false_or]
    exact noDict_map f xs fun y hy => k y (by simp [hy])
theorem toP_noDict (h : Hp) : ∀ (n : Nat) (d : D), (toP h n d).hasDict = false
  | 0, d => by simp [toP, PyData.hasDict]
  | n + 1, d => by
    have ih := toP_noDict h n
    cases d with
    | tup xs => simp only [toP, PyData.hasDict]; exact noDict_map _ xs fun x _ => ih x
    | ktup xs => simp only [toP, PyData.hasDict]; exact noDict_map _ xs fun x _ => ih x
    | rol xs => simp only [toP, PyData.hasDict]; exact noDict_map _ xs fun x _ => ih x
    | ref k =>
      simp only [toP]
      split
      · simp only [PyData.hasDict]; exact noDict_map _ _ fun x _ => ih x
      · simp [PyData.hasDict]
    | _ => simp [toP, PyData.hasDict]
theorem b1_repr (hg : X.A.guards = some []) (hu : X.A.units + 64 < cLine) : B1R X (.builtin "repr") .repr (rReprD X.K) := ⟨call_reprD hg hu, fun {β H h h' r1 r' v1 F1 Q} ok e R1 nf p => by
  simp only [b1V] at e
  obtain ⟨e1, rfl⟩ := opt_ok e
  obtain ⟨s, e2, rfl⟩ := map_some e1
  have main : ∀ {β' : List Addr} {h0 : Hp} {d : D}, HpOk X.K β' H h0 → Rel X.K β' H d v1 → reprD h0 d = some s → rReprD X.K [v1] H Q := fun {β' h0 d} ok' q e3 => by
    unfold reprD at e3
    split at e3
    · rename_i k
      simp only [Bool.and_eq_true, decide_eq_true_eq] at k
      obtain ⟨⟨k1, k2⟩, k3⟩ := k
      obtain ⟨a1, a2, a3⟩ := toP_ok ok' 60 d k1
      refine ⟨v1, toP h0 60 d, rfl, a3 _ q, k2, toP_noDict h0 60 d, a2, by rw [← lim_eq]; exact k3, ?_⟩
      have := p.val ok Ext.refl (mkStr s)
      rw [← Option.some.inj e3, tx_cps] at this
      exact this
    · cases e3
  cases r1 with
  | val d => exact main ok R1.2 e2
  | new o =>
    obtain ⟨a, rfl, rfl, ob⟩ := R1
    refine main (ok.push ob (nf a (by simp))) ?_ e2
    simp only [Rel]
    exact ⟨a, rfl, by rw [← ok.len]; simp⟩⟩
/-! ### sorted, min, max -/
theorem insI_perm (x : Int) : ∀ l : List Int, (insI x l).Perm (x :: l)
  | [] => .refl _
  | y :: r => by
    simp only [insI]
    split
    · exact .refl _
    · exact (List.Perm.cons y (insI_perm x r)).trans (List.Perm.swap x y r)
theorem sortI_perm : ∀ l : List Int, (sortI l).Perm l
  | [] => .refl _
  | x :: r => (insI_perm x (sortI r)).trans (List.Perm.cons x (sortI_perm r))
theorem insI_sorted (x : Int) : ∀ l : List Int, l.Pairwise (· ≤ ·) → (insI x l).Pairwise (· ≤ ·)
  | [], _ => by simp [insI]
  | y :: r, q => by
    simp only [insI]
    split
    · rename_i hx
      refine List.Pairwise.cons (fun z hz => ?_) q
      rcases List.mem_cons.mp hz with e | hz
      · omega
      · have := (List.pairwise_cons.mp q).1 z hz
        omega
    · rename_i hx
      obtain ⟨q1, q2⟩ := List.pairwise_cons.mp q
      refine List.Pairwise.cons (fun z hz => ?_) (insI_sorted x r q2)
      rcases List.mem_cons.mp ((insI_perm x r).mem_iff.mp hz) with e | hz
      · omega
      · exact q1 z hz
theorem sortI_sorted : ∀ l : List Int, (sortI l).Pairwise (· ≤ ·)
  | [] => List.Pairwise.nil
  | x :: r => insI_sorted x _ (sortI_sorted r)
theorem sorted_one {a b : List Int} (p : a.Perm b) (x : a.Pairwise (· ≤ ·)) (y : b.Pairwise (· ≤ ·)) : a = b :=
  List.Perm.eq_of_pairwise (le := fun (i j : Int) => i ≤ j) (fun i j _ _ h1 h2 => Int.le_antisymm h1 h2) x y p
theorem ints_rels (is : List Int) : Rels K β H (is.map D.int) (is.map V.int) := by
  induction is with
  | nil => exact Rels.nil
  | cons i r ih => exact Rels.cons (mkInt i) ih
theorem b1_sorted : B1R X (.builtin "sorted") .sorted (rSortedI X.K) := ⟨cr_sortedI, fun {β H h h' r1 r' v1 F1 Q} ok e R1 nf p => by
  simp only [b1V] at e
  obtain ⟨e1, rfl⟩ := opt_ok e
  obtain ⟨ds, e2, e3⟩ := bind_some e1
  obtain ⟨is, e4, rfl⟩ := map_some e3
  obtain ⟨a, vs, rfl, s, q⟩ := lstOf_ok ok R1 e2
  have := ints_ok e4 q
  subst this
  refine ⟨a, is, rfl, s, fun ns t pm sd ht => ?_⟩
  have e5 : ns = sortI is := sorted_one (pm.trans (sortI_perm is).symm) sd (sortI_sorted is)
  subst e5
  exact p.newL ok Ext.refl ht (ints_rels _)⟩
theorem minI_ok : ∀ (l : List Int) (x m : Int), (m ∈ x :: l) → (∀ y ∈ x :: l, m ≤ y) → minI x l = m
  | [], x, m, hm, _ => by simp at hm; simp [minI, hm]
  | y :: r, x, m, hm, hl => by
    show minI (if y < x then y else x) r = m
    have h1 := hl x (by simp)
    have h2 := hl y (by simp)
    refine minI_ok r _ m ?_ fun z hz => ?_
    · rcases List.mem_cons.mp hm with e | hm
      · subst e
        have : ¬ y < m := by omega
        simp [this]
      · rcases List.mem_cons.mp hm with e | hm
        · subst e
          by_cases hx : m < x
          · simp [hx]
          · have : m = x := by omega
            subst this
            simp
        · simp [hm]
    · rcases List.mem_cons.mp hz with e | hz
      · subst e; split <;> assumption
      · exact hl z (by simp [hz])
theorem maxI_ok : ∀ (l : List Int) (x m : Int), (m ∈ x :: l) → (∀ y ∈ x :: l, y ≤ m) → maxI x l = m
  | [], x, m, hm, _ => by simp at hm; simp [maxI, hm]
  | y :: r, x, m, hm, hl => by
    show maxI (if y > x then y else x) r = m
    have h1 := hl x (by simp)
    have h2 := hl y (by simp)
    refine maxI_ok r _ m ?_ fun z hz => ?_
    · rcases List.mem_cons.mp hm with e | hm
      · subst e
        have : ¬ y > m := by omega
        simp [this]
      · rcases List.mem_cons.mp hm with e | hm
        · subst e
          by_cases hx : m > x
          · simp [hx]
          · have : m = x := by omega
            subst this
            simp
        · simp [hm]
    · rcases List.mem_cons.mp hz with e | hz
      · subst e; split <;> assumption
      · exact hl z (by simp [hz])
theorem b1_min (hc : X.calm = true) : B1R X (.builtin "min") .min (fun vs H Q => rMin X.K vs H Q ∨ rMinT X.K vs H Q) := ⟨CallR.or (cr_min hc) (cr_minT hc), fun {β H h h' r1 r' v1 F1 Q} ok e R1 nf p => by
  simp only [b1V] at e
  obtain ⟨e1, rfl⟩ := opt_ok e
  obtain ⟨ds, e2, e3⟩ := bind_some e1
  obtain ⟨is, e4, e5⟩ := bind_some e3
  obtain ⟨m, e6, rfl⟩ := map_some e5
  obtain ⟨a, vs, rfl, s, q⟩ := ltOf_ok ok R1 e2
  have := ints_ok e4 q
  subst this
  cases is with
  | nil => cases e6
  | cons x l =>
    cases e6
    rcases s with s | s
    · refine .inl ⟨a, x :: l, rfl, s, by simp, fun m h1 h2 => ?_⟩
      rw [minI_ok l x m h1 h2] at p
      exact p.val ok Ext.refl (mkInt _)
    · refine .inr ⟨a, x :: l, rfl, s, by simp, fun m h1 h2 => ?_⟩
      rw [minI_ok l x m h1 h2] at p
      exact p.val ok Ext.refl (mkInt _)⟩
theorem b1_max (hc : X.calm = true) : B1R X (.builtin "max") .max (fun vs H Q => rMax X.K vs H Q ∨ rMaxT X.K vs H Q) := ⟨CallR.or (cr_max hc) (cr_maxT hc), fun {β H h h' r1 r' v1 F1 Q} ok e R1 nf p => by
  simp only [b1V] at e
  obtain ⟨e1, rfl⟩ := opt_ok e
  obtain ⟨ds, e2, e3⟩ := bind_some e1
  obtain ⟨is, e4, e5⟩ := bind_some e3
  obtain ⟨m, e6, rfl⟩ := map_some e5
  obtain ⟨a, vs, rfl, s, q⟩ := ltOf_ok ok R1 e2
  have := ints_ok e4 q
  subst this
  cases is with
  | nil => cases e6
  | cons x l =>
    cases e6
    rcases s with s | s
    · refine .inl ⟨a, x :: l, rfl, s, by simp, fun m h1 h2 => ?_⟩
      rw [maxI_ok l x m h1 h2] at p
      exact p.val ok Ext.refl (mkInt _)
    · refine .inr ⟨a, x :: l, rfl, s, by simp, fun m h1 h2 => ?_⟩
      rw [maxI_ok l x m h1 h2] at p
      exact p.val ok Ext.refl (mkInt _)⟩
/-! ### built-in functions of two arguments -/
structure B2R (X : Cx) (f : Value) (b : B2) (rr : List V → AHp → VK → Prop) : Prop where
  run : CallR X f rr
  of : ∀ {β : List Addr} {H : AHp} {h h' : Hp} {r1 r2 r' : Rv} {v1 v2 : V} {F1 F2 : List Addr} {Q : VK}, HpOk X.K β H h → b2V h b r1 r2 = .ok r' h' → RelR X.K β H r1 v1 F1 → RelR X.K β H r2 v2 F2 → PostR X.K β H h' r' Q → rr [v1, v2] H Q
theorem s_b2 {b : B2} {id : String} {x : Str} {rr : List V → AHp → VK → Prop} {a c : E} {pa pc : Expr} {pp pos : Pos} (B : B2R X (.builtin id) b rr) (hg : Gl X x) (hm : X.mg x = none) (hv : bootBuiltins x = some (.builtin id)) (ha : PE X pa (tE C X.K a)) (hc : PE X pc (tE C X.K c))
    (hs : starEach [pa, pc] X.env = (false, eval pa X.env) :: starEach [pc] X.env) (hs2 : starEach [pc] X.env = (false, eval pc X.env) :: starEach [] X.env) (hn : x ≠ "__name__") (hd : (x == ("__debug__" : Str)) = false) : PE X (.Call (.Name x pp) [pa, pc] [] pos) (tE C X.K (.b2 b a c)) :=
  imE (pe_callB B.run hg hm hv (a_cons ha (a_cons hc a_nil hs2) hs) hn hd hs (by rw [hs2]; rfl)) fun σ H Q q => by
    obtain ⟨β, ρ, h, r, h', ee, ok, e, p⟩ := q
    simp only [ev] at e
    obtain ⟨r1, h1, e1, e⟩ := bind_ok e
    obtain ⟨r2, h2, e2, e⟩ := bind_ok e
    refine ⟨β, ρ, h, [r1, r2], h2, ee, ok, by simp only [evs, e1, e2, R.bind], fun vs H1 β1 F ok1 x1 R1 nd f => ?_⟩
    obtain ⟨v, t, F1, F2, rfl, rfl, R1, v2, t2, F3, F4, rfl, rfl, R2, rfl, rfl⟩ := R1
    exact B.of ok1 e R1 R2 (p.later ok1 x1)
theorem b2_ints {b : B2} (e : b2V h b r1 r2 = .ok r h') : ∃ i j, r1 = .val (.int i) ∧ r2 = .val (.int j) := by
  unfold b2V at e
  split at e
  · exact ⟨_, _, rfl, rfl⟩
  · exact ⟨_, _, rfl, rfl⟩
  · cases e
theorem b2_min (hc : X.calm = true) : B2R X (.builtin "min") .min (fun xs H Q => ∃ i j, xs = [.int i, .int j] ∧ Q (.int (if j < i then j else i)) H) := ⟨call_min2 hc, fun {β H h h' r1 r2 r' v1 v2 F1 F2 Q} ok e R1 R2 p => by
  obtain ⟨i, j, rfl, rfl⟩ := b2_ints e
  simp only [b2V] at e
  cases e
  exact ⟨i, j, by rw [Rel.int R1, Rel.int R2], p.val ok Ext.refl (mkInt _)⟩⟩
theorem b2_max (hc : X.calm = true) : B2R X (.builtin "max") .max (fun xs H Q => ∃ i j, xs = [.int i, .int j] ∧ Q (.int (if j > i then j else i)) H) := ⟨call_max2 hc, fun {β H h h' r1 r2 r' v1 v2 F1 F2 Q} ok e R1 R2 p => by
  obtain ⟨i, j, rfl, rfl⟩ := b2_ints e
  simp only [b2V] at e
  cases e
  exact ⟨i, j, by rw [Rel.int R1, Rel.int R2], p.val ok Ext.refl (mkInt _)⟩⟩
/-! ### isinstance -/
def Ty.name : Ty → String
  | .int => "int"
  | .bool => "bool"
  | .str => "str"
  | .tuple => "tuple"
  | .list => "list"
  | .dict => "dict"
def tyName : Rv → Hp → Option String
  | .val .non, _ => some "NoneType"
  | .val (.bl _), _ => some "bool"
  | .val (.int _), _ => some "int"
  | .val (.str _), _ => some "str"
  | .val (.tup _), _ => some "tuple"
  | .val (.ktup _), _ => some "tuple"
  | .val (.rol _), _ => some "list"
  | r, h => (objOf h r).map fun
    | .lst _ => "list"
    | _ => "dict"
end
end G

/-! G11: isinstance, methods, dict displays. -/
namespace G
open PySem PySem.Spec L2
/-- what isinstance tells of two built-in classes -/
def tyHas : String → Ty → Bool
  | "bool", .int => true
  | "bool", .bool => true
  | "int", .int => true
  | "str", .str => true
  | "tuple", .tuple => true
  | "list", .list => true
  | "dict", .dict => true
  | _, _ => false
theorem kit_all (T : Ty) : kitB "NoneType" T.name = some (tyHas "NoneType" T) ∧ kitB "bool" T.name = some (tyHas "bool" T) ∧ kitB "int" T.name = some (tyHas "int" T) ∧ kitB "str" T.name = some (tyHas "str" T) ∧ kitB "tuple" T.name = some (tyHas "tuple" T) ∧ kitB "list" T.name = some (tyHas "list" T) ∧ kitB "dict" T.name = some (tyHas "dict" T) := by
  cases T <;> exact ⟨by decide +kernel, by decide +kernel, by decide +kernel, by decide +kernel, by decide +kernel, by decide +kernel, by decide +kernel⟩
section
variable {X : Cx} {C : Nat → List D → Hp → R Rv} {K : Frag} {σ : St} {ρ : Env} {β : List Addr} {H : AHp} {h h1 h2 h' : Hp} {r r1 r2 : Rv} {Q : VK}
theorem tyIs_ok {T : Ty} {v : V} {F : List Addr} {b : Bool} (ok : HpOk K β H h) (R1 : RelR K β H r v F) (e : tyIs T r h = some b) : ∃ n : String, TyX K H v (.type n) ∧ kitB n T.name = some b := by
  obtain ⟨k1, k2, k3, k4, k5, k6, k7⟩ := kit_all T
  have ob : ∀ {o : O}, objOf h r = some o → tyO T o = b → ∃ n : String, TyX K H v (.type n) ∧ kitB n T.name = some b := fun {o} e1 e2 => by
    obtain ⟨a, rfl, ob⟩ := objOf_ok ok R1 e1
    cases o with
    | lst ds =>
      obtain ⟨vs, s, _⟩ := ob
      refine ⟨"list", .base (.lst s), ?_⟩
      rw [k6, ← e2]
      cases T <;> rfl
    | dk kvs =>
      obtain ⟨l, s, _⟩ := ob
      refine ⟨"dict", .base (.dK s), ?_⟩
      rw [k7, ← e2]
      cases T <;> rfl
    | dt kvs =>
      obtain ⟨l, s, _⟩ := ob
      refine ⟨"dict", .base (.dT s), ?_⟩
      rw [k7, ← e2]
      cases T <;> rfl
  cases r with
  | new o =>
    simp only [tyIs] at e
    obtain ⟨o', e1, e2⟩ := map_some e
    exact ob e1 e2
  | val d =>
    cases d with
    | non => rw [Rel.non R1]; exact ⟨"NoneType", .base .non, by rw [k1]; simp only [tyIs] at e; rw [← e]; cases T <;> rfl⟩
    | bl c => rw [Rel.bl R1]; exact ⟨"bool", .base (.bl c), by rw [k2]; simp only [tyIs] at e; rw [← e]; cases T <;> rfl⟩
    | int c => rw [Rel.int R1]; exact ⟨"int", .base (.int c), by rw [k3]; simp only [tyIs] at e; rw [← e]; cases T <;> rfl⟩
    | str c => rw [Rel.str R1]; exact ⟨"str", .base (.str _), by rw [k4]; simp only [tyIs] at e; rw [← e]; cases T <;> rfl⟩
    | tup c =>
      obtain ⟨a, vs, rfl, s, _⟩ := Rel.tup R1
      exact ⟨"tuple", .base (.tup s), by rw [k5]; simp only [tyIs] at e; rw [← e]; cases T <;> rfl⟩
    | ktup c =>
      have q := R1.2
      simp only [Rel] at q
      obtain ⟨a, vs, rfl, s, _⟩ := q
      rcases s with (z | ⟨_, z⟩) | ⟨o, its, n, z, c2, _⟩
      · cases z
      · cases z
      · exact ⟨"tuple", .kTuple z c2, by rw [k5]; simp only [tyIs] at e; rw [← e]; cases T <;> rfl⟩
    | rol c =>
      obtain ⟨a, vs, rfl, s, _⟩ := Rel.rol R1
      rcases s with ⟨o, z⟩ | ⟨o, its, n, z, c2, _⟩
      · exact ⟨"list", .base (.frz z), by rw [k6]; simp only [tyIs] at e; rw [← e]; cases T <;> rfl⟩
      · exact ⟨"list", .kList z c2, by rw [k6]; simp only [tyIs] at e; rw [← e]; cases T <;> rfl⟩
    | ref n =>
      simp only [tyIs] at e
      obtain ⟨o', e1, e2⟩ := map_some e
      exact ob e1 e2
theorem s_isi {T : Ty} {x : Str} {a : E} {pa : Expr} {pp p2 pos : Pos} (hg : Gl X "isinstance") (hm : X.mg "isinstance" = none) (hgT : Gl X x) (hmT : X.mg x = none) (hvT : bootBuiltins x = some (.type T.name)) (ha : PE X pa (tE C X.K a))
    (hs : starEach [pa, .Name x p2] X.env = (false, eval pa X.env) :: starEach [.Name x p2] X.env) (hn : x ≠ "__name__") (hd : (x == ("__debug__" : Str)) = false) :
    PE X (.Call (.Name "isinstance" pp) [pa, .Name x p2] [] pos) (tE C X.K (.isi a T)) :=
  imE (pe_callB call_isi hg hm (by decide +kernel) (pa_cons ha (pa_cons (pe_bltn (v := .ty T.name) hgT hmT hvT rfl hn hd) pa_nil) hs) (by decide) (by decide) hs rfl) fun σ H Q q => by
    obtain ⟨β, ρ, h, r, h', ee, ok, e, p⟩ := q
    simp only [ev] at e
    obtain ⟨r1, h1, e1, e⟩ := bind_ok e
    obtain ⟨b, eb, rfl, rfl⟩ := boolR_ok e
    refine oneE ee ok e1 fun v H1 β1 F ok1 ee1 x1 R1 f1 => ?_
    obtain ⟨n, t1, t2⟩ := tyIs_ok ok1 R1 eb
    exact ⟨v, .ty T.name, .type n, .type T.name, b, rfl, .ty _, t1, kit_ty t2, p.val ok1 x1 (mkBl _)⟩
/-! ### methods -/
/-- a receiver whose base is plain -/
def plainBase : Expr → Bool
  | .Call (.Name _ _) [] [] _ => false
  | _ => true
theorem base_of {o : Expr} (k : plainBase o = true) (m : Str) (env : PySem.Env) (whole : Sem Value) : attributeBase o m env whole = whole := by
  unfold attributeBase
  split
  · cases k
  · rfl
theorem ext_box {β1 F : List Addr} {H1 : AHp} (x : Ext β H β1 H1) (f : ∀ a ∈ F, H a = none) : Ext β H (β1 ++ F) H1 :=
  ⟨x.fr, fun a m => (List.mem_append.mp m).elim (x.nw a) fun m => .inr (f a m), by obtain ⟨l, e⟩ := x.pre; exact ⟨l ++ F, by rw [e, List.append_assoc]⟩⟩
theorem few1 {pa : Expr} {env : PySem.Env} {pos : Pos} (hs : starEach [pa] env = (false, eval pa env) :: starEach [] env) : ((backTo pos (starEach [pa] env)).all (fun x => !x.1) && (backToKw pos (keywordEach [] env)).all (fun x => x.1.isSome)
      && decide (([pa] : List Expr).length + ([] : List Keyword).length + (if ([] : List Keyword).isEmpty then 0 else 1) < 30)) = true := by
  rw [hs]; rfl
theorem recv_ref {m : Mt} {r : Rv} (hm : m = .append ∨ m = .extend ∨ m = .pop) (e : recv h m r = true) : ∃ n xs, r = .val (.ref n) ∧ h[n]? = some (.lst xs) := by
  have main : ∀ {n : Nat}, ((h[n]?).bind lstIn).isSome = true → ∃ xs, h[n]? = some (.lst xs) := fun {n} q => by
    cases q2 : h[n]? with
    | none => rw [q2] at q; cases q
    | some o =>
      rw [q2] at q
      cases o with
      | lst xs => exact ⟨xs, rfl⟩
      | _ => cases q
  rcases hm with rfl | rfl | rfl <;> (
    cases r with
    | new o => cases e
    | val d =>
      cases d with
      | ref n => obtain ⟨xs, q⟩ := main e; exact ⟨n, xs, rfl, q⟩
      | _ => cases e)
theorem s_append {o a : E} {po pa : Expr} {apos pos : Pos} (ho : PE X po (tE C X.K o)) (ha : PE X pa (tE C X.K a)) (hb : plainBase po = true) (hl : (apos.endLine == pos.line) = true) (hs : starEach [pa] X.env = (false, eval pa X.env) :: starEach [] X.env) :
    PE X (.Call (.Attribute po "append" apos) [pa] [] pos) (tE C X.K (.mt .append o (.cons a .nil))) :=
  imE (pe_bm PySem.F.plainAttrs_list PySem.F.slot_list_append PySem.F.type_list_append mt_append ho (a_cons ha a_nil hs) (base_of hb _ _ _) (few1 hs) hl hs rfl) fun σ H Q q => by
    obtain ⟨β, ρ, h, r, h', ee, ok, e, p⟩ := q
    simp only [ev] at e
    obtain ⟨r1, h1, e1, e⟩ := bind_ok e
    split at e
    · rename_i rc
      obtain ⟨n, xs0, rfl, hn0⟩ := recv_ref (.inl rfl) rc
      obtain ⟨rs, h2, e2, e⟩ := bind_ok e
      refine oneE ee ok e1 fun v1 H1 β1 F1 ok1 ee1 x1 R1 f1 => ?_
      have R1' := R1.2
      simp only [Rel] at R1'
      obtain ⟨b, rfl, hb1⟩ := R1'
      refine ⟨?_, β1, ρ, h1, rs, h2, ee1, ok1, e2, fun vs H2 β2 F ok2 x2 R2 nd f => ?_⟩
      · obtain ⟨b', e3, ob⟩ := ok1.obj n _ hn0
        rw [hb1] at e3
        cases e3
        obtain ⟨vs, e4, _⟩ := ob
        exact .inl ⟨rfl, vs, SqL.of e4⟩
      · have hb2 := (Kp.of ok1 x2).ix n b hb1
        simp only [evs] at e2
        obtain ⟨ra, h3, e3, e2⟩ := bind_ok e2
        cases e2
        obtain ⟨v, t, G1, G2, rfl, rfl, Ra, rfl, rfl⟩ := R2
        rw [List.append_nil] at nd f
        simp only [mtV] at e
        split at e
        · rename_i xs hn
          cases eb : boxOne h2 ra with
          | mk d h4 =>
            rw [eb] at e
            obtain ⟨e5, rfl, rfl⟩ := when_ok e
            obtain ⟨ok4, Rd4⟩ := boxOne_ok ok2 Ra (fun a m => (f a m).1) eb
            have hn4 : h4[n]? = some (.lst xs) := by
              cases ra with
              | val _ => cases eb; exact hn
              | new _ => cases eb; rw [List.getElem?_append_left (List.getElem?_eq_some_iff.mp hn).1]; exact hn
            have hb4 : (β2 ++ G1)[n]? = some b := kp_append.ix (K := X.K) (H := H2) n b hb2
            obtain ⟨b', e6, vl, e7, q7⟩ := ok4.obj n _ hn4
            rw [hb4] at e6
            cases e6
            have x4 : Ext β H (β2 ++ G1) H2 := ext_box (x1.trans x2) fun a m => x1.none ok1 (f a m).2
            refine ⟨b, vl, v, rfl, rfl, e7, ?_, ?_⟩
            · rw [← q7.length, ← lim_eq]; exact of_decide_eq_true e5
            · have y : Ext (β2 ++ G1) H2 (β2 ++ G1) (upd H2 b (.lst (vl ++ [v]))) := ⟨fun a o q na => by rw [upd_ne (show a ≠ b from fun z => na (by rw [z]; exact List.mem_of_getElem? hb4))]; exact q, fun a m => .inl m, ⟨[], by simp⟩⟩
              have k := Kp.of ok4 y
              obtain ⟨okw, _, yw⟩ := ok4.write (ob := .lst (vl ++ [v])) (o' := .lst (xs ++ [d])) hn4 hb4 (.inl ⟨_, rfl⟩) ⟨_, upd_same, (Rels.append q7 (Rels.cons Rd4 Rels.nil)).mono k _ _⟩
              exact p.val okw (x4.trans yw) mkNon
        · cases e
    · cases e
end
end G

/-! G12: what is walked; statements. -/
namespace G
open PySem PySem.Spec L2
mutual
theorem beq_eq : ∀ a b : D, D.beq a b = true → a = b
  | .non, b, e => by cases b <;> first | rfl | (simp [D.beq] at e)
  | .bl x, b, e => by
    cases b with
    | bl y => simp [D.beq] at e; rw [e]
    | _ => simp [D.beq] at e
  | .int x, b, e => by
    cases b with
    | int y => simp [D.beq] at e; rw [e]
    | _ => simp [D.beq] at e
  | .str x, b, e => by
    cases b with
    | str y => simp [D.beq] at e; rw [e]
    | _ => simp [D.beq] at e
  | .ref x, b, e => by
    cases b with
    | ref y => simp [D.beq] at e; rw [e]
    | _ => simp [D.beq] at e
  | .tup x, b, e => by
    cases b with
    | tup y => simp only [D.beq] at e; rw [beqs_eq x y e]
    | _ => simp [D.beq] at e
  | .ktup x, b, e => by
    cases b with
    | ktup y => simp only [D.beq] at e; rw [beqs_eq x y e]
    | _ => simp [D.beq] at e
  | .rol x, b, e => by
    cases b with
    | rol y => simp only [D.beq] at e; rw [beqs_eq x y e]
    | _ => simp [D.beq] at e
theorem beqs_eq : ∀ a b : List D, D.beqs a b = true → a = b
  | [], [], _ => rfl
  | [], _ :: _, e => by simp [D.beqs] at e
  | _ :: _, [], e => by simp [D.beqs] at e
  | x :: xs, y :: ys, e => by
    simp only [D.beqs, Bool.and_eq_true] at e
    rw [beq_eq x y e.1, beqs_eq xs ys e.2]
end
def Tg.slots : Tg → List Nat
  | .one i => [i]
  | .many is => is
/-- an iterator that gives these items while the watched lists stay -/
structure GoodIt (K : Frag) (β0 : List Addr) (H0 : AHp) (J : L2.It) (ds : List D) (ws : List (Nat × List D)) : Prop where
  go : ∀ (i : Nat) (β : List Addr) (H : AHp) (h : Hp), HpOk K β H h → Ext β0 H0 β H → same h ws = true → i < ds.length → J.go i H
  yld : ∀ (i : Nat) (β : List Addr) (H : AHp) (h : Hp) (x : V) (H' : AHp), HpOk K β H h → Ext β0 H0 β H → same h ws = true → i < ds.length → J.yld i H x H' → HpOk K β H' h ∧ Ext β H β H' ∧ ∃ d, ds[i]? = some d ∧ Rel K β H' d x
  stop : ∀ (β : List Addr) (H : AHp) (h : Hp), HpOk K β H h → Ext β0 H0 β H → same h ws = true → J.stop ds.length H
section
variable (C : Nat → List D → Hp → R Rv) (K : Frag)
def tI (it : It) : TI := fun σ H Rr => ∃ β ρ h p h', EnvOk K β H σ ρ ∧ HpOk K β H h ∧ evi C it ρ h = .ok p h' ∧ ∀ J H' β', HpOk K β' H' h' → Ext β H β' H' → GoodIt K β' H' J p.1 p.2 → Rr J H'
def tG (tg : Tg) : TG := fun v σ H Q => ∃ β ρ h d ρ', HpOk K β H h ∧ EnvOk K β H σ ρ ∧ Rel K β H d v ∧ bindTg ρ tg d = some ρ' ∧ ∀ σ', EnvOk K β H σ' ρ' → (∀ vs : List Nat, (∀ i ∈ tg.slots, i ∈ vs) → wipe σ' vs = wipe σ vs) → Q σ' H
/-- classes of errors by number: where they are, which fields they keep -/
abbrev Gam := Nat → Option (Addr × List Str)
/-- an error in the air: its class, its dict -/
def ExcR (Γ : Gam) (K : Frag) (β : List Addr) (H : AHp) (c : Nat) (ds : List D) (cls : Value) (d : Option Addr) : Prop :=
  ∃ C fs, Γ c = some (C, fs) ∧ cls = .ref C ∧ ((fs = [] ∧ d = none) ∨ ∃ a vs, fs ≠ [] ∧ fs.length = ds.length ∧ fs.Nodup ∧ d = some a ∧ H a = some (.xd (fs.zip vs).reverse) ∧ Rels K β H ds vs)
def PostX (Γ : Gam) (K : Frag) (β : List Addr) (H : AHp) (h' : Hp) (c : Nat) (ds : List D) (W : XK) : Prop :=
  ∀ cls d H' β', HpOk K β' H' h' → Ext β H β' H' → ExcR Γ K β' H' c ds cls d → W cls d H'
variable (Γ : Gam) (W : WX)
def PostS (β : List Addr) (H : AHp) (res : SR) (D : Ends) : Prop := match res with
  | .nx ρ' h' => ∀ σ' H' β', HpOk K β' H' h' → EnvOk K β' H' σ' ρ' → Ext β H β' H' → D.nx σ' H'
  | .bk ρ' h' => ∀ σ' H' β', HpOk K β' H' h' → EnvOk K β' H' σ' ρ' → Ext β H β' H' → D.bk σ' H'
  | .ct ρ' h' => ∀ σ' H' β', HpOk K β' H' h' → EnvOk K β' H' σ' ρ' → Ext β H β' H' → D.ct σ' H'
  | .rt r h' => PostR K β H h' r D.rt
  | .exc c ds ρ' h' => ∀ σ' cls d H' β', HpOk K β' H' h' → EnvOk K β' H' σ' ρ' → Ext β H β' H' → ExcR Γ K β' H' c ds cls d → W cls d σ' H'
  | .bad => False
def tS (s : S) : TS := fun D σ H => ∃ β ρ h, EnvOk K β H σ ρ ∧ HpOk K β H h ∧ PostS K Γ W β H (ex C s ρ h) D
def tSs (s : Ss) : TS := fun D σ H => ∃ β ρ h, EnvOk K β H σ ρ ∧ HpOk K β H h ∧ PostS K Γ W β H (exs C s ρ h) D
end
section
variable {X : Cx} {C : Nat → List D → Hp → R Rv} {K : Frag} {σ : St} {ρ : Env} {β β1 : List Addr} {H H1 : AHp} {h h1 h2 h' : Hp} {r r1 r2 : Rv} {Q : VK} {En : Ends}
theorem PostS.later {Γ : Gam} {W : WX} {h0 : Hp} {res : SR} (ok : HpOk K β1 H1 h0) (x : Ext β H β1 H1) (p : PostS K Γ W β H res En) : PostS K Γ W β1 H1 res En := by
  cases res with
  | nx ρ' h' => exact fun σ' H' β' ok' ee x' => p σ' H' β' ok' ee (x.trans x')
  | bk ρ' h' => exact fun σ' H' β' ok' ee x' => p σ' H' β' ok' ee (x.trans x')
  | ct ρ' h' => exact fun σ' H' β' ok' ee x' => p σ' H' β' ok' ee (x.trans x')
  | rt r h' => exact PostR.later ok x p
  | exc c ds ρ' h' => exact fun σ' cls d H' β' ok' ee x' er => p σ' cls d H' β' ok' ee (x.trans x') er
  | bad => exact p
/-! ### what is walked -/
theorem atL {ds : List D} {vs : List V} (q : Rels K β H ds vs) {i : Nat} (hi : i < ds.length) : ∃ v, vs[i]? = some v := by
  rw [q.length] at hi
  exact ⟨_, List.getElem?_eq_getElem hi⟩
/-- a list that stands apart from the heap, or among its objects -/
theorem good_list {ds : List D} {ws : List (Nat × List D)} {a : Addr}
    (k : ∀ (β' : List Addr) (H' : AHp) (h' : Hp), HpOk K β' H' h' → Ext β H β' H' → same h' ws = true → ∃ vs, SqL K H' a vs ∧ Rels K β' H' ds vs) : GoodIt K β H (Itl K a) ds ws where
  go := fun i β' H' h' ok x s hi => by
    obtain ⟨vs, sq, q⟩ := k β' H' h' ok x s
    obtain ⟨v, e⟩ := atL q hi
    exact ⟨vs, v, sq, e⟩
  yld := fun i β' H' h' v H2 ok x s hi y => by
    obtain ⟨vs, sq, q⟩ := k β' H' h' ok x s
    obtain ⟨rfl, y⟩ := y
    have e := y vs sq
    have hd : ds[i]? = some ds[i] := List.getElem?_eq_getElem hi
    obtain ⟨u, e1, r⟩ := q.get hd
    rw [e] at e1
    cases e1
    exact ⟨ok, Ext.refl, _, hd, r⟩
  stop := fun β' H' h' ok x s => by
    obtain ⟨vs, sq, q⟩ := k β' H' h' ok x s
    exact ⟨vs, sq, by rw [q.length]; exact Nat.le_refl _⟩
theorem good_tup {ds : List D} {ws : List (Nat × List D)} {a : Addr}
    (k : ∀ (β' : List Addr) (H' : AHp) (h' : Hp), HpOk K β' H' h' → Ext β H β' H' → ∃ vs, SqT K H' a vs ∧ Rels K β' H' ds vs) : GoodIt K β H (Itt K a) ds ws where
  go := fun i β' H' h' ok x s hi => by
    obtain ⟨vs, sq, q⟩ := k β' H' h' ok x
    obtain ⟨v, e⟩ := atL q hi
    exact ⟨vs, v, sq, e⟩
  yld := fun i β' H' h' v H2 ok x s hi y => by
    obtain ⟨vs, sq, q⟩ := k β' H' h' ok x
    obtain ⟨rfl, y⟩ := y
    have e := y vs sq
    have hd : ds[i]? = some ds[i] := List.getElem?_eq_getElem hi
    obtain ⟨u, e1, r⟩ := q.get hd
    rw [e] at e1
    cases e1
    exact ⟨ok, Ext.refl, _, hd, r⟩
  stop := fun β' H' h' ok x s => by
    obtain ⟨vs, sq, q⟩ := k β' H' h' ok x
    exact ⟨vs, sq, by rw [q.length]; exact Nat.le_refl _⟩
/-- a value that is walked as a list -/
theorem walk_lst {ds : List D} {v : V} {F : List Addr} (ok : HpOk K β H h) (R1 : RelR K β H r v F) (nf : ∀ a ∈ F, a ∉ β) (e : lstOf h r = some ds) : ∃ a vs, v = .ref a ∧ SqL K H a vs ∧ GoodIt K β H (Itl K a) ds (watch h r) := by
  cases r with
  | new o =>
    obtain ⟨a, rfl, rfl, ob⟩ := R1
    cases o with
    | lst xs =>
      cases e
      obtain ⟨vs, s, q⟩ := ob
      refine ⟨a, vs, rfl, SqL.of s, good_list fun β' H' h' ok' x _ => ⟨vs, SqL.of (x.fr a _ s (nf a (by simp))), q.mono (Kp.of ok x) _ _⟩⟩
    | dk _ => cases e
    | dt _ => cases e
  | val d =>
    cases d with
    | rol xs =>
      cases e
      obtain ⟨a, vs, rfl, s, q⟩ := Rel.rol R1
      exact ⟨a, vs, rfl, s.sq, good_list fun β' H' h' ok' x _ => ⟨vs, ((Kp.of ok x).rol a vs s).sq, q.mono (Kp.of ok x) _ _⟩⟩
    | ref n =>
      have R1' := R1.2
      simp only [Rel] at R1'
      obtain ⟨a, rfl, ea⟩ := R1'
      cases q : h[n]? with
      | none => simp only [lstOf, objOf, q] at e; cases e
      | some o =>
        simp only [lstOf, objOf, q] at e
        cases o with
        | lst xs =>
          cases e
          obtain ⟨a', e1, vs, s, rr⟩ := ok.obj n _ q
          rw [ea] at e1
          cases e1
          refine ⟨a, vs, rfl, SqL.of s, good_list fun β' H' h' ok' x sm => ?_⟩
          have ea' := (Kp.of ok x).ix n a ea
          simp only [watch, q, Option.bind, lstIn, same, Bool.and_true] at sm
          split at sm
          · rename_i ys eys
            have := beqs_eq _ _ sm
            subst this
            cases q2 : h'[n]? with
            | none => rw [q2] at eys; cases eys
            | some o2 =>
              rw [q2] at eys
              cases o2 with
              | lst zs =>
                cases eys
                obtain ⟨a2, e2, vs2, s2, rr2⟩ := ok'.obj n _ q2
                rw [ea'] at e2
                cases e2
                exact ⟨vs2, SqL.of s2, rr2⟩
              | dk _ => cases eys
              | dt _ => cases eys
          · cases sm
        | dk _ => cases e
        | dt _ => cases e
    | _ => cases e
theorem walk_tp {ds : List D} {v : V} {F : List Addr} {ws : List (Nat × List D)} (ok : HpOk K β H h) (R1 : RelR K β H r v F) (e : r = .val (.tup ds) ∨ r = .val (.ktup ds)) : ∃ a vs, v = .ref a ∧ SqT K H a vs ∧ GoodIt K β H (Itt K a) ds ws := by
  rcases e with rfl | rfl
  · obtain ⟨a, vs, rfl, s, q⟩ := Rel.tup R1
    exact ⟨a, vs, rfl, SqT.of s, good_tup fun β' H' h' ok' x => ⟨vs, SqT.of ((Kp.of ok x).tup a vs s), q.mono (Kp.of ok x) _ _⟩⟩
  · have R1' := R1.2
    simp only [Rel] at R1'
    obtain ⟨a, vs, rfl, s, q⟩ := R1'
    exact ⟨a, vs, rfl, kt_sq s, good_tup fun β' H' h' ok' x => ⟨vs, kt_sq s, q.mono (Kp.of ok x) _ _⟩⟩
theorem orI {tg e : Expr} {t1 t2 : TI} (a : PI X tg e t1) (b : PI X tg e t2) : PI X tg e (fun σ H R => t1 σ H R ∨ t2 σ H R) := ⟨fun pins s σ H R I q => q.elim (a.run pins s σ H R I) (b.run pins s σ H R I)⟩
/-- what is walked: a list, a tuple, a text -/
def seqIt (h : Hp) : Rv → Option (List D)
  | .val (.tup xs) => some xs
  | .val (.ktup xs) => some xs
  | .val (.str s) => some (chars s)
  | r => lstOf h r
theorem i_seq {e : E} {pe tg : Expr} (he : PE X pe (tE C X.K e)) : PI X tg pe (tI C X.K (.seq e)) :=
  imI (orI (pi_list he) (orI (pi_tup he) (pi_str he))) fun σ H Rr q => by
    obtain ⟨β, ρ, h, p, h', ee, ok, e0, k⟩ := q
    simp only [evi] at e0
    obtain ⟨r1, h1, e1, e2⟩ := bind_ok e0
    obtain ⟨e3, rfl⟩ := opt_ok e2
    obtain ⟨ds, e4, rfl⟩ := map_some e3
    have lst : lstOf h' r1 = some ds → iList X.K (tE C X.K e) σ H Rr := fun e5 => by
      refine oneE ee ok e1 fun v H1 β1 F ok1 ee1 x1 R1 f1 => ?_
      obtain ⟨a, vs, rfl, s, g⟩ := walk_lst ok1 R1 (fun a m => (f1 a m).1) e5
      exact ⟨a, rfl, ⟨vs, s⟩, k _ _ β1 ok1 x1 g⟩
    have tup : r1 = .val (.tup ds) ∨ r1 = .val (.ktup ds) → iTup X.K (tE C X.K e) σ H Rr := fun e5 => by
      refine oneE ee ok e1 fun v H1 β1 F ok1 ee1 x1 R1 f1 => ?_
      obtain ⟨a, vs, rfl, s, g⟩ := walk_tp (ws := watch h' r1) ok1 R1 e5
      exact ⟨a, rfl, ⟨vs, s⟩, k _ _ β1 ok1 x1 g⟩
    cases r1 with
    | new o =>
      cases o with
      | lst xs => exact .inl (lst e4)
      | dk _ => cases e4
      | dt _ => cases e4
    | val d =>
      cases d with
      | tup xs => cases e4; exact .inr (.inl (tup (.inl rfl)))
      | ktup xs => cases e4; exact .inr (.inl (tup (.inr rfl)))
      | rol xs => exact .inl (lst e4)
      | str s =>
        cases e4
        refine .inr (.inr (oneE ee ok e1 fun v H1 β1 F ok1 ee1 x1 R1 f1 => ⟨tx s, Rel.str R1, k _ _ β1 ok1 x1 ?_⟩))
        have sz : (tx s).cps.size = s.length := by simp [tx]
        refine ⟨fun i β2 H2 h2 ok2 x2 sm hi => ?_, fun i β2 H2 h2 v2 H3 ok2 x2 sm hi y => ?_, fun β2 H2 h2 ok2 x2 sm => ?_⟩
        · show i < (tx s).cps.size
          rw [sz]; simpa [chars] using hi
        · obtain ⟨rfl, c, ec, rfl⟩ := y
          refine ⟨ok2, Ext.refl, .str [c], ?_, mkStr [c]⟩
          have ec' : s[i]? = some c := by simpa [tx] using ec
          simp only [chars, List.getElem?_map, ec', Option.map]
        · show (tx s).cps.size ≤ (chars s).length
          rw [sz]; simp [chars]
      | ref n =>
        cases q : h'[n]? with
        | none => simp only [itemsOf, q] at e4; cases e4
        | some o =>
          simp only [itemsOf, q, Option.bind] at e4
          cases o with
          | lst xs => exact .inl (lst (by simp only [lstOf, objOf, q, Option.bind, lstIn]; exact e4))
          | dk _ => cases e4
          | dt _ => cases e4
      | _ => cases e4
theorem rangeL_get (step : Int) : ∀ (n : Nat) (lo : Int) (i : Nat), i < n → (rangeL lo step n)[i]? = some (.int (lo + i * step))
  | 0, _, _, hi => absurd hi (Nat.not_lt_zero _)
  | n + 1, lo, 0, _ => by simp [rangeL]
  | n + 1, lo, i + 1, hi => by
    simp only [rangeL, List.getElem?_cons_succ]
    rw [rangeL_get step n (lo + step) i (by omega)]
    congr 2
    rw [Int.natCast_add, Int.add_mul]
    omega
theorem rangeL_length (step : Int) : ∀ (n : Nat) (lo : Int), (rangeL lo step n).length = n
  | 0, _ => rfl
  | n + 1, lo => by simp [rangeL, rangeL_length step n]
theorem good_range {lo : Int} {n : Nat} : GoodIt K β H (Itr lo n) (rangeL lo 1 n) [] where
  go := fun i β' H' h' ok x s hi => by rw [rangeL_length] at hi; exact hi
  yld := fun i β' H' h' v H2 ok x s hi y => by
    rw [rangeL_length] at hi
    obtain ⟨rfl, rfl⟩ := y
    exact ⟨ok, Ext.refl, _, rangeL_get 1 n lo i hi, by rw [Int.mul_one]; exact mkInt _⟩
  stop := fun β' H' h' ok x s => by rw [rangeL_length]; exact Nat.le_refl _
theorem small_ok {i : Int} (e : small i = true) : -(2 ^ 62) ≤ i ∧ i < 2 ^ 62 := by
  simp only [small, Bool.and_eq_true, decide_eq_true_eq] at e
  exact e
theorem i_r1 {a : E} {pa tg : Expr} {pp pos : Pos} (hg : Gl X "range") (hm : X.mg "range" = none) (ha : PE X pa (tE C X.K a)) (hs : starEach [pa] X.env = [(false, eval pa X.env)]) : PI X tg (.Call (.Name "range" pp) [pa] [] pos) (tI C X.K (.r1 a)) :=
  imI (pi_range1 hg hm (a_cons ha a_nil hs) hs) fun σ H Rr q => by
    obtain ⟨β, ρ, h, p, h', ee, ok, e0, k⟩ := q
    simp only [evi] at e0
    obtain ⟨r1, h1, e1, e2⟩ := bind_ok e0
    refine ⟨β, ρ, h, [r1], h1, ee, ok, by simp only [evs, e1, R.bind], fun vs H1 β1 F ok1 x1 R1 nd f => ?_⟩
    obtain ⟨v, t, F1, F2, rfl, rfl, R1, rfl, rfl⟩ := R1
    split at e2
    · obtain ⟨e3, rfl, rfl⟩ := when_ok e2
      obtain ⟨s1, s2⟩ := small_ok e3
      exact ⟨_, by rw [Rel.int R1], s1, s2, k _ _ β1 ok1 x1 good_range⟩
    · cases e2
theorem i_r2 {a b : E} {pa pb tg : Expr} {pp pos : Pos} (hg : Gl X "range") (hm : X.mg "range" = none) (ha : PE X pa (tE C X.K a)) (hb : PE X pb (tE C X.K b)) (hs : starEach [pa, pb] X.env = [(false, eval pa X.env), (false, eval pb X.env)]) (hs2 : starEach [pb] X.env = [(false, eval pb X.env)]) : PI X tg (.Call (.Name "range" pp) [pa, pb] [] pos) (tI C X.K (.r2 a b)) :=
  imI (pi_range2 hg hm (a_cons ha (a_cons hb a_nil hs2) (by rw [hs, hs2])) hs hs2) fun σ H Rr q => by
    obtain ⟨β, ρ, h, p, h', ee, ok, e0, k⟩ := q
    simp only [evi] at e0
    obtain ⟨r1, h1, e1, e2⟩ := bind_ok e0
    obtain ⟨r2, h2, e3, e2⟩ := bind_ok e2
    refine ⟨β, ρ, h, [r1, r2], h2, ee, ok, by simp only [evs, e1, e3, R.bind], fun vs H1 β1 F ok1 x1 R1 nd f => ?_⟩
    obtain ⟨v, t, F1, F2, rfl, rfl, R1, v2, t2, F3, F4, rfl, rfl, R2, rfl, rfl⟩ := R1
    split at e2
    · obtain ⟨e4, rfl, rfl⟩ := when_ok e2
      rw [Bool.and_eq_true] at e4
      obtain ⟨s1, s2⟩ := small_ok e4.1
      obtain ⟨s3, s4⟩ := small_ok e4.2
      exact ⟨_, _, by rw [Rel.int R1, Rel.int R2], ⟨s1, s2, s3, s4⟩, k _ _ β1 ok1 x1 good_range⟩
    · cases e2
end
end G

/-! G13: targets, statements, loops. -/
namespace G
open PySem PySem.Spec L2
theorem wipe_get {σ : St} {i : Nat} : ∀ (vs : List Nat), (wipe σ vs)[i]? = if i ∈ vs ∧ i < σ.length then some none else σ[i]?
  | [] => by simp [wipe]
  | v :: vs => by
    simp only [wipe]
    by_cases hv : v = i
    · subst hv
      rw [List.getElem?_set]
      simp only [if_true, wipe_length, List.mem_cons, true_or, true_and]
      by_cases hl : v < σ.length
      · simp [hl]
      · simp [hl]
    · rw [List.getElem?_set_ne hv, wipe_get vs]
      simp only [List.mem_cons]
      have : ¬ i = v := fun z => hv z.symm
      simp [this]
theorem wipe_set {σ : St} {i : Nat} {x : Option V} {vs : List Nat} (hi : i ∈ vs) : wipe (σ.set i x) vs = wipe σ vs := by
  apply List.ext_getElem?
  intro j
  rw [wipe_get, wipe_get, List.length_set]
  by_cases hj : j ∈ vs
  · by_cases hl : j < σ.length
    · simp [hj, hl]
    · simp only [hj, hl, and_false, if_false]
      rw [List.getElem?_eq_none (by simpa using hl), List.getElem?_eq_none (by simpa using hl)]
  · have : i ≠ j := fun z => hj (z ▸ hi)
    simp only [hj, false_and, if_false]
    rw [List.getElem?_set_ne this]
section
variable {X : Cx} {C : Nat → List D → Hp → R Rv} {K : Frag} {σ : St} {ρ : Env} {β β1 : List Addr} {H H1 : AHp} {h h1 h2 h' : Hp} {r r1 r2 : Rv} {Q : VK} {En : Ends}
theorem wipeE_get {ρ : Env} {i : Nat} : ∀ (vs : List Nat), (wipeE ρ vs)[i]? = if i ∈ vs ∧ i < ρ.length then some none else ρ[i]?
  | [] => by simp [wipeE]
  | v :: vs => by
    have hlen : ∀ vs : List Nat, (wipeE ρ vs).length = ρ.length := fun vs => by
      induction vs with
      | nil => rfl
      | cons w ws ih => simp [wipeE, ih]
    simp only [wipeE]
    by_cases hv : v = i
    · subst hv
      rw [List.getElem?_set]
      simp only [if_true, hlen, List.mem_cons, true_or, true_and]
      by_cases hl : v < ρ.length
      · simp [hl]
      · simp [hl]
    · rw [List.getElem?_set_ne hv, wipeE_get vs]
      simp only [List.mem_cons]
      have : ¬ i = v := fun z => hv z.symm
      simp [this]
theorem wipeE_length (ρ : Env) : ∀ vs : List Nat, (wipeE ρ vs).length = ρ.length
  | [] => rfl
  | v :: vs => by simp [wipeE, wipeE_length ρ vs]
theorem EnvOk.wipe {vs : List Nat} (ee : EnvOk K β H σ ρ) : EnvOk K β H (L2.wipe σ vs) (wipeE ρ vs) := by
  refine ⟨by rw [wipeE_length, wipe_length, ee.len], fun i d e => ?_⟩
  rw [wipeE_get] at e
  split at e
  · cases e
  · rename_i hn
    obtain ⟨v, e1, r⟩ := ee.env i d e
    refine ⟨v, ?_, r⟩
    rw [wipe_get, if_neg (by rw [← ee.len]; exact hn)]
    exact e1
/-! ### targets -/
theorem g_one {i : Nat} {x : Str} {pos : Pos} (hN : X.N.Nodup) (hi : X.N[i]? = some x) (hx : Loc X.env.scope x) (hf : X.fn x = true ∨ X.env.scope.names.lookup x = some .local) : PG X (.Name x pos) (tG X.K (.one i)) :=
  ⟨fun pins s σ H v u Q I r q => (pg_name hN hi hx hf).run pins s σ H v u Q I r (by
    obtain ⟨β, ρ, h, d, ρ', ok, ee, rr, e, k⟩ := q
    cases e
    exact k _ (ee.set rr) fun vs hv => wipe_set (hv i (by simp [Tg.slots])))⟩
def setAll (σ : St) (is : List Nat) (vs : List V) : St := (is.zip vs).foldl (fun σ p => σ.set p.1 (some p.2)) σ
def tNames (is : List Nat) : TGs := fun vs σ H Q => vs.length = is.length ∧ Q (setAll σ is vs) H
/-- names and their slots -/
def NamesAt (X : Cx) : List Nat → List Expr → Prop
  | [], es => es = []
  | i :: is, es => ∃ x pos r, es = .Name x pos :: r ∧ X.N[i]? = some x ∧ Loc X.env.scope x ∧ (X.fn x = true ∨ X.env.scope.names.lookup x = some .local) ∧ NamesAt X is r
theorem gs_names (hN : X.N.Nodup) : ∀ (is : List Nat) (es : List Expr), NamesAt X is es → PGs X es (tNames is)
  | [], es, k => by
    have k' : es = [] := k
    subst k'
    exact ⟨fun pins s σ H vs us Q I r q => pgs_nil.run pins s σ H vs us Q I r (by
      obtain ⟨q1, q2⟩ := q
      exact ⟨List.length_eq_zero_iff.mp q1, q2⟩)⟩
  | i :: is, es, k => by
    obtain ⟨x, pos, t, rfl, h1, h2, h3, k⟩ := k
    have ih := gs_names hN is t k
    exact ⟨fun pins s σ H vs us Q I r q => (pgs_cons (pg_name hN h1 h2 h3) ih rfl).run pins s σ H vs us Q I r (by
      obtain ⟨q1, q2⟩ := q
      cases vs with
      | nil => cases q1
      | cons v vs => exact ⟨v, vs, rfl, by simpa using q1, q2⟩)⟩
theorem names_len : ∀ (is : List Nat) (es : List Expr), NamesAt X is es → (assignEach es X.env).length = is.length ∧ (assignEach es X.env).findIdx? (·.1) = none
  | [], es, k => by
    have k' : es = [] := k
    subst k'
    exact ⟨rfl, rfl⟩
  | i :: is, es, k => by
    obtain ⟨x, pos, t, rfl, h1, h2, h3, k⟩ := k
    obtain ⟨a, b⟩ := names_len is t k
    have e : assignEach (.Name x pos :: t) X.env = (false, assign (.Name x pos) X.env) :: assignEach t X.env := rfl
    rw [e]
    refine ⟨by simp [a], ?_⟩
    rw [List.findIdx?_cons]
    simp [b]
theorem setAll_ok : ∀ (is : List Nat) (ds : List D) (vs : List V) (σ : St) (ρ : Env), EnvOk K β H σ ρ → Rels K β H ds vs → EnvOk K β H (setAll σ is vs) ((is.zip ds).foldl (fun ρ p => ρ.set p.1 (some p.2)) ρ)
  | [], ds, vs, σ, ρ, ee, _ => by simpa [setAll] using ee
  | i :: is, [], vs, σ, ρ, ee, q => by simp only [Rels] at q; subst q; simpa [setAll] using ee
  | i :: is, d :: ds, vs, σ, ρ, ee, q => by
    simp only [Rels] at q
    obtain ⟨v, t, rfl, q1, q2⟩ := q
    exact setAll_ok is ds t _ _ (ee.set q1) q2
theorem setAll_wipe : ∀ (is : List Nat) (us : List V) (σ : St) (vs : List Nat), (∀ i ∈ is, i ∈ vs) → wipe (setAll σ is us) vs = wipe σ vs
  | [], us, σ, vs, _ => rfl
  | i :: is, [], σ, vs, _ => rfl
  | i :: is, u :: us, σ, vs, k => by
    have := setAll_wipe is us (σ.set i (some u)) vs fun j hj => k j (by simp [hj])
    show wipe (setAll (σ.set i (some u)) is us) vs = _
    rw [this, wipe_set (k i (by simp))]
theorem g_many {is : List Nat} {es : List Expr} {k : Nat} {pos : Pos} (hc : X.calm = true) (hN : X.N.Nodup) (ks : NamesAt X is es) : PG X (.Tuple es k pos) (tG X.K (.many is)) := by
  obtain ⟨l1, l2⟩ := names_len is es ks
  refine ⟨fun pins s σ H v u Q I r q => (pg_tup hc (gs_names hN is es ks) l1 l2).run pins s σ H v u Q I r ?_⟩
  obtain ⟨β, ρ, h, d, ρ', ok, ee, rr, e, k⟩ := q
  have fin : ∀ {xs : List D} {a : Addr} {vs : List V}, v = .ref a → SqT X.K H a vs → Rels X.K β H xs vs → (if is.length = xs.length then some ((is.zip xs).foldl (fun ρ p => ρ.set p.1 (some p.2)) ρ) else none) = some ρ' → gTup X.K is.length (tNames is) v σ H Q := fun {xs a vs} ev sq q e => by
    split at e
    · rename_i hl
      cases e
      exact ⟨a, vs, ev, sq, by rw [← q.length, hl], by rw [← q.length, hl], k _ (setAll_ok is xs vs σ ρ ee q) fun ws hw => setAll_wipe is vs σ ws hw⟩
    · cases e
  cases d with
  | tup xs =>
    simp only [Rel] at rr
    obtain ⟨a, vs, rfl, s, q⟩ := rr
    exact fin rfl (SqT.of s) q e
  | ktup xs =>
    simp only [Rel] at rr
    obtain ⟨a, vs, rfl, s, q⟩ := rr
    exact fin rfl (kt_sq s) q e
  | _ => cases e
end
end G

/-! G14: statements. -/
namespace G
open PySem PySem.Spec L2
section
variable {X : Cx} {C : Nat → List D → Hp → R Rv} {K : Frag} {σ : St} {ρ : Env} {β β1 : List Addr} {H H1 : AHp} {h h1 h2 h' : Hp} {r r1 r2 : Rv} {Q : VK} {En : Ends}
variable {Γ : Gam} {W : WX}
theorem st_cases {α : Type} {r : R α} {b : Bool} {f : α → Hp → SR} (p : PostS K Γ W β H (r.st b ρ f) En) : (∃ a h1, r = .ok a h1 ∧ PostS K Γ W β H (f a h1) En) ∨ (b = true ∧ ∃ c ds h1, r = .exc c ds h1 ∧ PostS K Γ W β H (.exc c ds ρ h1) En) := by
  cases r with
  | ok a h1 => exact .inl ⟨a, h1, rfl, p⟩
  | exc c ds h =>
    cases b with
    | true => exact .inr ⟨rfl, c, ds, h, rfl, p⟩
    | false => exact p.elim
  | bad => exact p.elim
theorem st_ok {α : Type} {r : R α} {f : α → Hp → SR} (p : PostS K Γ W β H (r.st false ρ f) En) : ∃ a h1, r = .ok a h1 ∧ PostS K Γ W β H (f a h1) En := by
  rcases st_cases p with q | ⟨q, _⟩
  · exact q
  · cases q
/-- an expression that may raise, where b says so -/
def tEX (C : Nat → List D → Hp → R Rv) (K : Frag) (Γ : Gam) (W : WX) (b : Bool) (e : E) : TE := fun σ H Q => tE C K e σ H Q ∨ (b = true ∧ ∃ β ρ h c ds h', EnvOk K β H σ ρ ∧ HpOk K β H h ∧ ev C e ρ h = .exc c ds h' ∧ PostX Γ K β H h' c ds fun cls d H' => W cls d σ H')
def tTX (C : Nat → List D → Hp → R Rv) (K : Frag) (Γ : Gam) (W : WX) (b : Bool) (e : E) : TT := fun σ H Q => tT C K e σ H Q ∨ (b = true ∧ ∃ β ρ h c ds h', EnvOk K β H σ ρ ∧ HpOk K β H h ∧ tst C e ρ h = .exc c ds h' ∧ PostX Γ K β H h' c ds fun cls d H' => W cls d σ H')
def tAX (C : Nat → List D → Hp → R Rv) (K : Frag) (Γ : Gam) (W : WX) (b : Bool) (es : Es) : TA := fun σ H Q => tA C K es σ H Q ∨ (b = true ∧ ∃ β ρ h c ds h', EnvOk K β H σ ρ ∧ HpOk K β H h ∧ evs C es ρ h = .exc c ds h' ∧ PostX Γ K β H h' c ds fun cls d H' => W cls d σ H')
theorem PostS.px {c : Nat} {ds : List D} {h1 : Hp} (ok : HpOk K β H h) (ee : EnvOk K β H σ ρ) (p : PostS K Γ W β H (.exc c ds ρ h1) En) : PostX Γ K β H h1 c ds fun cls d H' => W cls d σ H' :=
  fun cls d H' β' ok' x' er => p σ cls d H' β' ok' (ee.mono (Kp.of ok x')) x' er
theorem PostX.later {V : XK} {c : Nat} {ds : List D} {h0 : Hp} (ok : HpOk K β1 H1 h0) (x : Ext β H β1 H1) (p : PostX Γ K β H h' c ds V) : PostX Γ K β1 H1 h' c ds V :=
  fun cls d H' β' ok' x' er => p cls d H' β' ok' (x.trans x') er
/-- an expression statement's two ways -/
theorem twoWays {e : E} {b : Bool} {f : Rv → Hp → SR} {k : V → AHp → Prop} (ee : EnvOk K β H σ ρ) (ok : HpOk K β H h) (p : PostS K Γ W β H ((ev C e ρ h).st b ρ f) En)
    (q : ∀ r1 h1, ev C e ρ h = .ok r1 h1 → PostS K Γ W β H (f r1 h1) En → ∀ v H1 β1 F, HpOk K β1 H1 h1 → EnvOk K β1 H1 σ ρ → Ext β H β1 H1 → RelR K β1 H1 r1 v F → (∀ a ∈ F, a ∉ β1 ∧ H a = none) → k v H1) : tEX C K Γ W b e σ H k := by
  rcases st_cases p with ⟨r1, h1, e1, p⟩ | ⟨hb, c, ds, h1, e1, p⟩
  · exact .inl (oneE ee ok e1 fun v H1 β1 F ok1 ee1 x1 R1 f1 => q r1 h1 e1 p v H1 β1 F ok1 ee1 x1 R1 f1)
  · exact .inr ⟨hb, β, ρ, h, c, ds, h1, ee, ok, e1, p.px ok ee⟩
theorem st_asg {i : Nat} {x : Str} {e : E} {pe : Expr} {pos pos' : Pos} (hN : X.N.Nodup) (hi : X.N[i]? = some x) (hx : Loc X.env.scope x) (he : PE X pe (tEX C X.K Γ W (xa false e) e)) (hs : swapsWith pe (some (.Name x pos')) pos.line X.env = pure false) (hf : X.fn x = true ∨ X.env.scope.names.lookup x = some .local) :
    PS X (.Assign [.Name x pos'] pe pos) (tS C X.K Γ W (.asg i e)) :=
  imS (ps_set hN hi hx he hs hf) fun En σ H q => by
    obtain ⟨β, ρ, h, ee, ok, p⟩ := q
    simp only [ex] at p
    refine twoWays ee ok p fun r1 h1 e1 p v H1 β1 F ok1 ee1 x1 R1 f1 => ?_
    cases eb : boxOne h1 r1 with
    | mk d h2 =>
      rw [eb] at p
      obtain ⟨ok2, R2⟩ := boxOne_ok ok1 R1 (fun a m => (f1 a m).1) eb
      exact p _ _ _ ok2 ((ee1.mono kp_append).set R2) (ext_box x1 fun a m => (f1 a m).2)
def tGA (K : Frag) (is : List Nat) : TG := fun v σ H Q => tG K (.many is) v σ H Q ∨ gLst K is.length (tNames is) v σ H Q
theorem g_any {is : List Nat} {es : List Expr} {k : Nat} {pos : Pos} (hc : X.calm = true) (hN : X.N.Nodup) (ks : NamesAt X is es) : PG X (.Tuple es k pos) (tGA X.K is) := by
  obtain ⟨l1, l2⟩ := names_len is es ks
  exact ⟨fun pins s σ H v u Q I r q => q.elim ((g_many hc hN ks).run pins s σ H v u Q I r) ((pg_lst hc (gs_names hN is es ks) l1 l2).run pins s σ H v u Q I r)⟩
theorem st_asgT {is : List Nat} {e : E} {pe : Expr} {es : List Expr} {k : Nat} {pos pos' : Pos} (hc : X.calm = true) (hN : X.N.Nodup) (ks : NamesAt X is es) (he : PE X pe (tEX C X.K Γ W (xa false e) e)) (hs : swapsWithSole [.Tuple es k pos'] pe pos.line X.env = pure false) (hw : swappedStores [.Tuple es k pos'] pe X.env = pure none) :
    PS X (.Assign [.Tuple es k pos'] pe pos) (tS C X.K Γ W (.asgT is e)) :=
  imS (ps_asg he (g_any hc hN ks) hs hw rfl) fun En σ H q => by
    obtain ⟨β, ρ, h, ee, ok, p⟩ := q
    simp only [ex] at p
    refine twoWays ee ok p fun r1 h1 e1 p v H1 β1 F ok1 ee1 x1 R1 f1 => ?_
    cases r1 with
    | new o => exact p.elim
    | val d =>
      cases eb : bindTg ρ (.many is) d with
      | none =>
        simp only [eb] at p
        cases el : lstOf h1 (.val d) with
        | none => rw [el] at p; exact p.elim
        | some xs =>
          rw [el, Option.bind_some] at p
          obtain ⟨a, vs, ev, s1, q1⟩ := lstOf_ok ok1 R1 el
          simp only [bindTg] at p
          split at p
          · rename_i hl
            by_cases hl : is.length = xs.length
            · rename_i ρ1 he1
              rw [if_pos hl] at he1
              cases he1
              exact .inr ⟨a, vs, ev, s1, by rw [← q1.length, hl], by rw [← q1.length, hl], p _ H1 β1 ok1 (setAll_ok is xs vs σ ρ ee1 q1) x1⟩
            · rename_i ρ1 he1
              rw [if_neg hl] at he1
              cases he1
          · exact p.elim
      | some ρ1 =>
        simp only [eb] at p
        exact .inl ⟨β1, ρ, h1, d, ρ1, ok1, ee1, R1.2, eb, fun σ' ee' _ => p σ' H1 β1 ok1 ee' x1⟩
/-- the items of a tuple that is taken apart at once -/
theorem tupled {es : Es} {is : List Nat} {k : List V → AHp → Prop} (ee : EnvOk K β H σ ρ) (ok : HpOk K β H h) (p : PostS K Γ W β H (ex C (.asgT is (.tup es)) ρ h) En)
    (q : ∀ (vs : List V) (H1 : AHp) (ds : List D), vs.length = is.length → ds.length = is.length → En.nx (setAll σ is vs) H1 → k vs H1) : tAX C K Γ W (xas es) es σ H k := by
  simp only [ex, ev, xa] at p
  rcases st_cases p with ⟨r1, h1, e1, p⟩ | ⟨hb, c, ds, h1, e1, p⟩
  case inr =>
    refine .inr ⟨hb, β, ρ, h, c, ds, h1, ee, ok, ?_, p.px ok ee⟩
    rcases bind_exc e1 with z | ⟨rs, h2, e2, e1⟩
    · exact z
    · cases eb : boxAll h2 rs with
      | mk ds h3 =>
        rw [eb] at e1
        exact absurd e1 when_exc
  refine .inl ?_
  obtain ⟨rs, h2, e2, e1⟩ := bind_ok e1
  cases eb : boxAll h2 rs with
  | mk ds h3 =>
    rw [eb] at e1
    obtain ⟨_, rfl, rfl⟩ := when_ok e1
    refine boxedA ee ok e2 eb fun vs H1 β1 ok1 ee1 x1 R1 => ?_
    simp only [bindTg] at p
    split at p
    · rename_i ρ1 hb
      split at hb
      · rename_i hl
        cases hb
        exact q vs H1 ds (by rw [← R1.length, hl]) hl.symm (p _ _ _ ok1 (setAll_ok is ds vs σ ρ ee1 R1) x1)
      · cases hb
    · exact p.elim
theorem st_par2 {i j : Nat} {x y : Str} {a b : E} {pa pb : Expr} {px py pt : Pos} {kt k2 : Nat} {pt2 pos : Pos} (hc : X.calm = true) (hN : X.N.Nodup) (hi : X.N[i]? = some x) (hj : X.N[j]? = some y) (hij : i ≠ j)
    (hx : X.env.scope.names.lookup x = some .local) (hy : X.env.scope.names.lookup y = some .local) (ha : PA X [pa, pb] (tAX C X.K Γ W (xas (.cons a (.cons b .nil))) (.cons a (.cons b .nil))))
    (hw : swappedStores [.Tuple [.Name x px, .Name y py] kt pt] (.Tuple [pa, pb] k2 pt2) X.env = pure (some [x, y])) :
    PS X (.Assign [.Tuple [.Name x px, .Name y py] kt pt] (.Tuple [pa, pb] k2 pt2) pos) (tS C X.K Γ W (.asgT [i, j] (.tup (.cons a (.cons b .nil))))) :=
  imS (ps_par hc hN hi hj hij hx hy ha hw rfl) fun En σ H q => by
    obtain ⟨β, ρ, h, ee, ok, p⟩ := q
    refine tupled ee ok p fun vs H1 ds l1 l2 k => ?_
    match vs, l1, k with
    | [v, w], _, k => exact ⟨v, w, rfl, k⟩
theorem st_par3 {i j l : Nat} {x y z : Str} {a b c : E} {pa pb pc : Expr} {px py pz pt : Pos} {kt k2 : Nat} {pt2 pos : Pos} (hc : X.calm = true) (hN : X.N.Nodup) (hi : X.N[i]? = some x) (hj : X.N[j]? = some y) (hl : X.N[l]? = some z) (hij : i ≠ j) (hil : i ≠ l) (hjl : j ≠ l)
    (hx : X.env.scope.names.lookup x = some .local) (hy : X.env.scope.names.lookup y = some .local) (hz : X.env.scope.names.lookup z = some .local) (ha : PA X [pa, pb, pc] (tAX C X.K Γ W (xas (.cons a (.cons b (.cons c .nil)))) (.cons a (.cons b (.cons c .nil)))))
    (hw : swappedStores [.Tuple [.Name x px, .Name y py, .Name z pz] kt pt] (.Tuple [pa, pb, pc] k2 pt2) X.env = pure (some [x, y, z])) :
    PS X (.Assign [.Tuple [.Name x px, .Name y py, .Name z pz] kt pt] (.Tuple [pa, pb, pc] k2 pt2) pos) (tS C X.K Γ W (.asgT [i, j, l] (.tup (.cons a (.cons b (.cons c .nil)))))) :=
  imS (ps_par3 hc hN hi hj hl hij hil hjl hx hy hz ha hw rfl) fun En σ H q => by
    obtain ⟨β, ρ, h, ee, ok, p⟩ := q
    refine tupled ee ok p fun vs H1 ds l1 l2 k => ?_
    match vs, l1, k with
    | [u, v, w], _, k => exact ⟨u, v, w, rfl, k⟩
def ipL : TIp := fun x y H Q => ∃ i j, x = .int i ∧ y = .int j ∧ (low64 i || low64 j) = true ∧ Q (.int (i * j)) H
theorem ip_mul : PIp X .Mult ipL := by
  intro pins s σ H x y v u Q I r1 r2 k
  refine iop_mul pins s σ H x y v u Q I r1 r2 ?_
  obtain ⟨i, j, rfl, rfl, l, q⟩ := k
  refine ⟨i, j, rfl, rfl, ?_, q⟩
  rw [Bool.or_eq_true] at l
  simp only [low64, Bool.and_eq_true, decide_eq_true_eq] at l
  exact l
structure AugR (X : Cx) (op : Operator) (o : Bop) (t : TIp) : Prop where
  ip : PIp X op t
  ok : ∀ {d : D} {r : Rv} {i : Int} {K : Frag} {β : List Addr} {H : AHp} {x y : V} {F : List Addr} {Q : VK}, augV o d r = some i → Rel K β H d x → RelR K β H r y F → Q (.int i) H → t x y H Q
theorem augV_ints {o : Bop} {d : D} {r : Rv} {i : Int} (e : augV o d r = some i) : ∃ a b, d = .int a ∧ r = .val (.int b) := by
  unfold augV at e
  split at e <;> first | exact ⟨_, _, rfl, rfl⟩ | cases e
theorem aug_add : AugR X .Add .add (ipI fun i j => i + j) := ⟨ip_add, fun e R1 R2 q => by
  obtain ⟨a, b, rfl, rfl⟩ := augV_ints e
  cases e
  exact ⟨a, b, by simpa [Rel] using R1, Rel.int R2, q⟩⟩
theorem aug_sub : AugR X .Sub .sub (ipI fun i j => i - j) := ⟨ip_sub, fun e R1 R2 q => by
  obtain ⟨a, b, rfl, rfl⟩ := augV_ints e
  cases e
  exact ⟨a, b, by simpa [Rel] using R1, Rel.int R2, q⟩⟩
theorem aug_mul : AugR X .Mult .mul ipL := ⟨ip_mul, fun e R1 R2 q => by
  obtain ⟨a, b, rfl, rfl⟩ := augV_ints e
  simp only [augV] at e
  split at e
  · rename_i l
    cases e
    exact ⟨a, b, by simpa [Rel] using R1, Rel.int R2, l, q⟩
  · cases e⟩
theorem st_aug {i : Nat} {x : Str} {e : E} {o : Bop} {op : Operator} {t : TIp} {pe : Expr} {pos pos' : Pos} (B : AugR X op o t) (hN : X.N.Nodup) (hi : X.N[i]? = some x) (hx : Loc X.env.scope x) (he : PE X pe (tE C X.K e)) (hf : X.fn x = true ∨ X.env.scope.names.lookup x = some .local) :
    PS X (.AugAssign (.Name x pos') op pe pos) (tS C X.K Γ W (.aug i o e)) :=
  imS (ps_aug hN hi hx he B.ip hf) fun En σ H q => by
    obtain ⟨β, ρ, h, ee, ok, p⟩ := q
    simp only [ex] at p
    split at p
    · rename_i d hd
      obtain ⟨r1, h1, e1, p⟩ := st_ok p
      obtain ⟨v, ev, rv⟩ := ee.env i d hd
      refine ⟨v, ev, oneE ee ok e1 fun y H1 β1 F ok1 ee1 x1 R1 f1 => ?_⟩
      split at p
      · rename_i j hj
        exact B.ok hj (rv.mono (Kp.of ok x1) _ _) R1 (p _ _ β1 ok1 (ee1.set (mkInt _)) x1)
      · exact p.elim
    · exact p.elim
theorem st_ex {e : E} {pe : Expr} {pos : Pos} (he : PE X pe (tEX C X.K Γ W (xa false e) e)) (hs : swapsWith pe none pos.line X.env = pure false) : PS X (.Expr pe pos) (tS C X.K Γ W (.ex e)) :=
  imS (ps_expr he hs) fun En σ H q => by
    obtain ⟨β, ρ, h, ee, ok, p⟩ := q
    simp only [ex] at p
    exact twoWays ee ok p fun r1 h1 e1 p y H1 β1 F ok1 ee1 x1 R1 f1 => p σ H1 β1 ok1 ee1 x1
theorem st_if {t : E} {a b : Ss} {pt : Expr} {pa pb : List Stmt} {pos : Pos} (ht : PT X pt (tTX C X.K Γ W (xa true t) t)) (ha : PSs X pa (tSs C X.K Γ W a)) (hb : PSs X pb (tSs C X.K Γ W b)) : PS X (.If pt pa pb pos) (tS C X.K Γ W (.ife t a b)) :=
  imS (ps_if ht ha hb) fun En σ H q => by
    obtain ⟨β, ρ, h, ee, ok, p⟩ := q
    simp only [ex] at p
    rcases st_cases p with ⟨c, h1, e1, p⟩ | ⟨hb, c, ds, h1, e1, p⟩
    case inr => exact .inr ⟨hb, β, ρ, h, c, ds, h1, ee, ok, e1, p.px ok ee⟩
    refine .inl ⟨β, ρ, h, c, h1, ee, ok, e1, fun H1 β1 ok1 x1 => ?_⟩
    have ee1 := ee.mono (Kp.of ok x1)
    cases c with
    | true => exact ⟨β1, ρ, h1, ee1, ok1, p.later ok1 x1⟩
    | false => exact ⟨β1, ρ, h1, ee1, ok1, p.later ok1 x1⟩
theorem st_ret {e : E} {pe : Expr} {pos : Pos} (he : PE X pe (tEX C X.K Γ W (xa false e) e)) : PS X (.Return (some pe) pos) (tS C X.K Γ W (.ret e)) :=
  imS (ps_ret he) fun En σ H q => by
    obtain ⟨β, ρ, h, ee, ok, p⟩ := q
    simp only [ex] at p
    exact twoWays ee ok p fun r1 h1 e1 p y H1 β1 F ok1 ee1 x1 R1 f1 => p y H1 β1 F ok1 x1 R1 f1
theorem st_retN {pos : Pos} : PS X (.Return none pos) (tS C X.K Γ W .retN) :=
  imS ps_retN fun En σ H q => by
    obtain ⟨β, ρ, h, ee, ok, p⟩ := q
    exact PostR.val ok Ext.refl p mkNon
theorem st_brk {pos : Pos} : PS X (.Break pos) (tS C X.K Γ W .brk) :=
  imS ps_break fun En σ H q => by
    obtain ⟨β, ρ, h, ee, ok, p⟩ := q
    exact p σ H β ok ee Ext.refl
theorem st_cnt {pos : Pos} : PS X (.Continue pos) (tS C X.K Γ W .cnt) :=
  imS ps_continue fun En σ H q => by
    obtain ⟨β, ρ, h, ee, ok, p⟩ := q
    exact p σ H β ok ee Ext.refl
theorem st_pass {pos : Pos} : PS X (.Pass pos) (tS C X.K Γ W .pass) :=
  imS ps_pass fun En σ H q => by
    obtain ⟨β, ρ, h, ee, ok, p⟩ := q
    exact p σ H β ok ee Ext.refl
theorem ss_nil : PSs X [] (tSs C X.K Γ W .nil) :=
  imSs pss_nil fun En σ H q => by
    obtain ⟨β, ρ, h, ee, ok, p⟩ := q
    exact p σ H β ok ee Ext.refl
/-- all but going on is as it was -/
theorem PostS.seq {res : SR} {res2 : Env → Hp → SR} {nx' : St → AHp → Prop} (p : PostS K Γ W β H (match res with | .nx ρ1 h1 => res2 ρ1 h1 | r => r) En)
    (k : ∀ ρ1 h1, res = .nx ρ1 h1 → ∀ σ' H' β', HpOk K β' H' h1 → EnvOk K β' H' σ' ρ1 → Ext β H β' H' → PostS K Γ W β H (res2 ρ1 h1) En → nx' σ' H') : PostS K Γ W β H res { En with nx := nx' } := by
  cases res with
  | nx ρ1 h1 => exact fun σ' H' β' ok' ee' x' => k ρ1 h1 rfl σ' H' β' ok' ee' x' p
  | bk _ _ => exact p
  | ct _ _ => exact p
  | rt _ _ => exact p
  | exc _ _ _ _ => exact p
  | bad => exact p
theorem ss_cons {s : S} {ss : Ss} {ps : Stmt} {pss : List Stmt} (hs : PS X ps (tS C X.K Γ W s)) (hss : PSs X pss (tSs C X.K Γ W ss)) : PSs X (ps :: pss) (tSs C X.K Γ W (.cons s ss)) :=
  imSs (pss_cons hs hss) fun En σ H q => by
    obtain ⟨β, ρ, h, ee, ok, p⟩ := q
    simp only [exs] at p
    refine ⟨β, ρ, h, ee, ok, ?_⟩
    exact PostS.seq (res2 := fun ρ1 h1 => exs C ss ρ1 h1) p fun ρ1 h1 _ σ' H' β' ok' ee' x' p' => ⟨β', ρ1, h1, ee', ok', p'.later ok' x'⟩
/-- a def's beginning: its words -/
theorem ss_doc {ss : Ss} {x : Str} {j : Nat} {p p' : Pos} {pss : List Stmt} (hss : PSs X pss (tSs C X.K Γ W ss)) : PSs X (.Expr (.Constant (.str x) j p) p' :: pss) (tSs C X.K Γ W ss) :=
  imSs (pss_cons ps_doc hss) fun En σ H q => q
/-! ### loops -/
theorem st_whl {t : E} {b : Ss} {pt : Expr} {pb : List Stmt} {pos : Pos} (hp : PassesOwn (model X.prog X.w) X.A X.env X.xe) (ht : PT X pt (tT C X.K t)) (hb : PSs X pb (tSs C X.K Γ W b)) : PS X (.While pt pb [] pos) (tS C X.K Γ W (.whl t b)) :=
  imS (ps_while hp ht hb) fun En σ0 H0 q => by
    obtain ⟨β0, ρ0, h0, ee0, ok0, p0⟩ := q
    simp only [ex] at p0
    refine ⟨fun m σ H => ∃ β ρ h, EnvOk X.K β H σ ρ ∧ HpOk X.K β H h ∧ PostS X.K Γ W β H (whileL (tst C t) (exs C b) m ρ h) En, ⟨fuel, β0, ρ0, h0, ee0, ok0, p0⟩, ?_⟩
    rintro m σ H ⟨β, ρ, h, ee, ok, p⟩
    cases m with
    | zero => exact p.elim
    | succ m =>
      simp only [whileL] at p
      cases et : tst C t ρ h with
      | exc _ _ _ => rw [et] at p; exact p.elim
      | bad => rw [et] at p; exact p.elim
      | ok c h1 =>
        rw [et] at p
        refine ⟨β, ρ, h, c, h1, ee, ok, et, fun H1 β1 ok1 x1 => ?_⟩
        have ee1 := ee.mono (Kp.of ok x1)
        cases c with
        | false =>
          exact p σ H1 β1 ok1 ee1 x1
        | true =>
          refine ⟨fun σ' H' => ∃ β ρ h, EnvOk X.K β H' σ' ρ ∧ HpOk X.K β H' h ∧ PostS X.K Γ W β H' (whileL (tst C t) (exs C b) m ρ h) En, fun σ' H' k => ⟨m, Nat.lt_succ_self m, k⟩, β1, ρ, h1, ee1, ok1, ?_⟩
          simp only at p
          cases eb : exs C b ρ h1 with
          | nx ρ2 h2 =>
            rw [eb] at p
            exact fun σ' H' β' ok' ee' x' => ⟨β', ρ2, h2, ee', ok', (p.later ok1 x1).later ok' x'⟩
          | ct ρ2 h2 =>
            rw [eb] at p
            exact fun σ' H' β' ok' ee' x' => ⟨β', ρ2, h2, ee', ok', (p.later ok1 x1).later ok' x'⟩
          | bk ρ2 h2 =>
            rw [eb] at p
            exact fun σ' H' β' ok' ee' x' => p σ' H' β' ok' ee' (x1.trans x')
          | rt r h2 =>
            rw [eb] at p
            exact PostR.later ok1 x1 p
          | exc c es ρ2 h2 =>
            rw [eb] at p
            exact fun σ' cls d H' β' ok' ee' x' er => p σ' cls d H' β' ok' ee' (x1.trans x') er
          | bad => rw [eb] at p; exact p.elim
theorem st_for {tg : Tg} {it : It} {b : Ss} {ptg pit : Expr} {pb : List Stmt} {pos : Pos} (hp : PassesOwn (model X.prog X.w) X.A X.env X.xe) (hc : X.calm = true) (hi : PI X ptg pit (tI C X.K it)) (hg : PG X ptg (tG X.K tg)) (hb : PSs X pb (tSs C X.K Γ W b))
    (hs : ∀ x, foldedSetIterable pit X.env x = pure x) : PS X (.For ptg pit pb [] pos) (tS C X.K Γ W (.for_ tg it b)) :=
  imS (ps_for hp hc hi hg hb hs) fun En σ0 H0 q => by
    obtain ⟨β0, ρ0, h0, ee0, ok0, p0⟩ := q
    simp only [ex] at p0
    obtain ⟨⟨ds, ws⟩, h1, e1, p0⟩ := st_ok p0
    refine ⟨β0, ρ0, h0, (ds, ws), h1, ee0, ok0, e1, fun J H1 β1 ok1 x1 g => ?_⟩
    have ee1 := ee0.mono (Kp.of ok0 x1)
    simp only at p0 g
    refine ⟨fun i m σ H => m = ds.length - i ∧ i ≤ ds.length ∧ ∃ β ρ h, EnvOk X.K β H σ ρ ∧ HpOk X.K β H h ∧ Ext β1 H1 β H ∧ PostS X.K Γ W β H (forL (fun d ρ => bindTg ρ tg d) ws (exs C b) (ds.drop i) ρ h) En, ⟨ds.length, rfl, Nat.zero_le _, β1, ρ0, h1, ee1, ok1, Ext.refl, p0.later ok1 x1⟩, ?_⟩
    rintro i m σ H ⟨rfl, hi, β, ρ, h, ee, ok, x, p⟩
    by_cases hlt : i < ds.length
    · have ed : ds.drop i = ds[i] :: ds.drop (i + 1) := List.drop_eq_getElem_cons hlt
      rw [ed] at p
      simp only [forL] at p
      cases sm : same h ws with
      | false => rw [sm] at p; exact p.elim
      | true =>
        cases bt : bindTg ρ tg ds[i] with
        | none => rw [sm, bt] at p; exact p.elim
        | some ρ1 =>
          rw [sm, bt] at p
          simp only at p
          refine .inr ⟨g.go i β H h ok x sm hlt, fun σ' H' => ∃ β ρ h, EnvOk X.K β H' σ' ρ ∧ HpOk X.K β H' h ∧ Ext β1 H1 β H' ∧ PostS X.K Γ W β H' (forL (fun d ρ => bindTg ρ tg d) ws (exs C b) (ds.drop (i + 1)) ρ h) En, fun σ' H' k => ⟨ds.length - (i + 1), by omega, rfl, hlt, k⟩, fun v H' y => ?_⟩
          obtain ⟨ok', x', d, hd, rd⟩ := g.yld i β H h v H' ok x sm hlt y
          rw [List.getElem?_eq_getElem hlt] at hd
          cases hd
          refine ⟨β, ρ, h, ds[i], ρ1, ok', ee.mono (Kp.of ok x'), rd, bt, fun σ' ee' _ => ⟨β, ρ1, h, ee', ok', ?_⟩⟩
          cases eb : exs C b ρ1 h with
          | nx ρ2 h2 =>
            rw [eb] at p
            exact fun σ3 H3 β3 ok3 ee3 x3 => ⟨β3, ρ2, h2, ee3, ok3, (x.trans x').trans x3, (p.later ok' x').later ok3 x3⟩
          | ct ρ2 h2 =>
            rw [eb] at p
            exact fun σ3 H3 β3 ok3 ee3 x3 => ⟨β3, ρ2, h2, ee3, ok3, (x.trans x').trans x3, (p.later ok' x').later ok3 x3⟩
          | bk ρ2 h2 =>
            rw [eb] at p
            exact fun σ3 H3 β3 ok3 ee3 x3 => p σ3 H3 β3 ok3 ee3 (x'.trans x3)
          | rt r h2 =>
            rw [eb] at p
            exact PostR.later ok' x' p
          | exc c es ρ2 h2 =>
            rw [eb] at p
            exact fun σ3 cls d H3 β3 ok3 ee3 x3 er => p σ3 cls d H3 β3 ok3 ee3 (x'.trans x3) er
          | bad => rw [eb] at p; exact p.elim
    · have hi' : i = ds.length := by omega
      subst hi'
      rw [List.drop_length] at p
      simp only [forL] at p
      cases sm : same h ws with
      | false => rw [sm] at p; exact p.elim
      | true =>
        rw [sm] at p
        exact .inl ⟨g.stop β H h ok x sm, p σ H β ok ee Ext.refl⟩
end
end G

/-! G15: item assignment, displays of dicts, list comprehensions. -/
namespace G
open PySem PySem.Spec L2
section
variable {X : Cx} {C : Nat → List D → Hp → R Rv} {K : Frag} {σ : St} {ρ : Env} {β β1 : List Addr} {H H1 : AHp} {h h1 h2 h' : Hp} {r r1 r2 : Rv} {Q : VK} {En : Ends}
/-! ### o[i] = v -/
theorem any_k {k : D} {q : Key} (x : keyR k q) : ∀ {kvs : List (D × D)} {l : List (Key × V)}, kvR K β H kvs l → (kvs.any fun p => D.beq p.1 k) = l.any fun kv => decide (kv.1 = q)
  | [], l, y => by
    have y' : l = [] := y
    subst y'
    rfl
  | (d, e) :: r, l, y => by
    obtain ⟨p, v, t, rfl, y1, y2, y3⟩ := y
    simp only [List.any_cons]
    rw [keyR_beq y1 x, any_k x y3]
theorem map_k {k d : D} {q : Key} {v : V} (x : keyR k q) (rv : Rel K β H d v) : ∀ {kvs : List (D × D)} {l : List (Key × V)}, kvR K β H kvs l → kvR K β H (kvs.map fun p => if D.beq p.1 k = true then (p.1, d) else p) (l.map fun kv => if kv.1 = q then (kv.1, v) else kv)
  | [], l, y => by
    have y' : l = [] := y
    subst y'
    rfl
  | (e0, e) :: r, l, y => by
    obtain ⟨p, w, t, rfl, y1, y2, y3⟩ := y
    simp only [List.map_cons]
    rw [keyR_beq y1 x]
    by_cases hp : p = q
    · rw [decide_eq_true hp, if_pos rfl, if_pos hp]
      exact ⟨p, v, _, rfl, y1, rv, map_k x rv y3⟩
    · rw [decide_eq_false hp, if_neg Bool.false_ne_true, if_neg hp]
      exact ⟨p, w, _, rfl, y1, y2, map_k x rv y3⟩
theorem app_k {k d : D} {q : Key} {v : V} (x : keyR k q) (rv : Rel K β H d v) : ∀ {kvs : List (D × D)} {l : List (Key × V)}, kvR K β H kvs l → kvR K β H (kvs ++ [(k, d)]) (l ++ [(q, v)])
  | [], l, y => by
    have y' : l = [] := y
    subst y'
    exact ⟨q, v, [], rfl, x, rv, rfl⟩
  | (e0, e) :: r, l, y => by
    obtain ⟨p, w, t, rfl, y1, y2, y3⟩ := y
    exact ⟨p, w, _, rfl, y1, y2, app_k x rv y3⟩
theorem put_k {k d : D} {q : Key} {v : V} {kvs : List (D × D)} {l : List (Key × V)} (x : keyR k q) (rv : Rel K β H d v) (y : kvR K β H kvs l) : kvR K β H (put k d kvs) (putK l q v) := by
  unfold put putK
  rw [any_k x y]
  split
  · exact map_k x rv y
  · exact app_k x rv y
theorem any_t {k : D} {q : List Key} (x : keyT k q) : ∀ {kvs : List (D × D)} {l : List (List Key × V)}, kvT K β H kvs l → (kvs.any fun p => D.beq p.1 k) = l.any fun kv => decide (kv.1 = q)
  | [], l, y => by
    have y' : l = [] := y
    subst y'
    rfl
  | (d, e) :: r, l, y => by
    obtain ⟨p, v, t, rfl, y1, y2, y3⟩ := y
    simp only [List.any_cons]
    rw [keyT_beq y1 x, any_t x y3]
theorem map_t {k d : D} {q : List Key} {v : V} (x : keyT k q) (rv : Rel K β H d v) : ∀ {kvs : List (D × D)} {l : List (List Key × V)}, kvT K β H kvs l → kvT K β H (kvs.map fun p => if D.beq p.1 k = true then (p.1, d) else p) (l.map fun kv => if kv.1 = q then (kv.1, v) else kv)
  | [], l, y => by
    have y' : l = [] := y
    subst y'
    rfl
  | (e0, e) :: r, l, y => by
    obtain ⟨p, w, t, rfl, y1, y2, y3⟩ := y
    simp only [List.map_cons]
    rw [keyT_beq y1 x]
    by_cases hp : p = q
    · rw [decide_eq_true hp, if_pos rfl, if_pos hp]
      exact ⟨p, v, _, rfl, y1, rv, map_t x rv y3⟩
    · rw [decide_eq_false hp, if_neg Bool.false_ne_true, if_neg hp]
      exact ⟨p, w, _, rfl, y1, y2, map_t x rv y3⟩
theorem app_t {k d : D} {q : List Key} {v : V} (x : keyT k q) (rv : Rel K β H d v) : ∀ {kvs : List (D × D)} {l : List (List Key × V)}, kvT K β H kvs l → kvT K β H (kvs ++ [(k, d)]) (l ++ [(q, v)])
  | [], l, y => by
    have y' : l = [] := y
    subst y'
    exact ⟨q, v, [], rfl, x, rv, rfl⟩
  | (e0, e) :: r, l, y => by
    obtain ⟨p, w, t, rfl, y1, y2, y3⟩ := y
    exact ⟨p, w, _, rfl, y1, y2, app_t x rv y3⟩
theorem put_t {k d : D} {q : List Key} {v : V} {kvs : List (D × D)} {l : List (List Key × V)} (x : keyT k q) (rv : Rel K β H d v) (y : kvT K β H kvs l) : kvT K β H (put k d kvs) (putK l q v) := by
  unfold put putK
  rw [any_t x y]
  split
  · exact map_t x rv y
  · exact app_t x rv y
theorem kvR_length : ∀ {kvs : List (D × D)} {l : List (Key × V)}, kvR K β H kvs l → kvs.length = l.length
  | [], l, y => by
    have y' : l = [] := y
    subst y'
    rfl
  | (e0, e) :: r, l, y => by
    obtain ⟨p, w, t, rfl, y1, y2, y3⟩ := y
    simp [kvR_length y3]
theorem kvT_length : ∀ {kvs : List (D × D)} {l : List (List Key × V)}, kvT K β H kvs l → kvs.length = l.length
  | [], l, y => by
    have y' : l = [] := y
    subst y'
    rfl
  | (e0, e) :: r, l, y => by
    obtain ⟨p, w, t, rfl, y1, y2, y3⟩ := y
    simp [kvT_length y3]
def tPut : TSet := fun o i v H Q => rSetL o i v H Q ∨ rSetD o i v H Q
theorem set_put (hu : X.A.units + 1 < cLine) : PSet X tPut := fun pins s σ H o i v ov iv u Q I r1 r2 r3 q => q.elim (set_list pins s σ H o i v ov iv u Q I r1 r2 r3) (set_dict hu pins s σ H o i v ov iv u Q I r1 r2 r3)
/-- the address is written -/
theorem setV_ok {x y v : Rv} {vx vy vv : V} {Fx Fy Fv : List Addr} {P : AHp → Prop} (ok : HpOk K β H h) (e : setV h x y v = some h') (Rx : RelR K β H x vx Fx) (Ry : RelR K β H y vy Fy) (Rv : RelR K β H v vv Fv) (nf : ∀ a ∈ Fv, a ∉ β)
    (q : ∀ H', HpOk K (β ++ Fv) H' h' → Kp K (β ++ Fv) H (β ++ Fv) H' → Ext (β ++ Fv) H (β ++ Fv) H' → P H') : tPut vx vy vv H P := by
  unfold setV at e
  split at e
  · rename_i n k
    cases eb : boxOne h v with
    | mk d h1 =>
      simp only [eb] at e
      obtain ⟨ok1, R1⟩ := boxOne_ok ok Rv nf eb
      have Rx' := Rx.2
      simp only [Rel] at Rx'
      obtain ⟨a, rfl, ha⟩ := Rx'
      have ha1 : (β ++ Fv)[n]? = some a := (kp_append (K := K) (H := H)).ix n a ha
      have Ry' := (Ry.2).mono (kp_append (F := Fv)) _ _
      split at e
      · rename_i xs hn
        obtain ⟨a', e1, vs, e2, q2⟩ := ok1.obj n _ hn
        rw [ha1] at e1
        cases e1
        split at e
        · rename_i i
          obtain ⟨j, e3, rfl⟩ := map_some e
          refine .inl ⟨a, vs, i, j, rfl, by simpa [Rel] using Ry', e2, by rw [← q2.length, ← ixN_eq]; exact e3, ?_⟩
          have y : Ext (β ++ Fv) H (β ++ Fv) (upd H a (.lst (vs.set j vv))) := ⟨fun b o z nb => by rw [upd_ne (show b ≠ a from fun w => nb (by rw [w]; exact List.mem_of_getElem? ha1))]; exact z, fun b m => .inl m, ⟨[], by simp⟩⟩
          obtain ⟨okw, kw, yw⟩ := ok1.write (ob := .lst (vs.set j vv)) (o' := .lst (xs.set j d)) hn ha1 (.inl ⟨_, rfl⟩) ⟨_, upd_same, (q2.set j R1).mono (Kp.of ok1 y) _ _⟩
          exact q _ okw kw yw
        · cases e
      · rename_i ob _ hn
        obtain ⟨ob', e3, rfl⟩ := map_some e
        obtain ⟨a', e1, ro⟩ := ok1.obj n _ hn
        rw [ha1] at e1
        cases e1
        cases ob with
        | lst _ => cases e3
        | dk kvs =>
          simp only [dput] at e3
          split at e3
          · rename_i kk
            cases e3
            rw [Bool.and_eq_true] at kk
            obtain ⟨pk, p1, rfl⟩ := key_ok kk.1 Ry'
            obtain ⟨l, e4, r4⟩ := ro
            refine .inr ⟨a, _, rfl, DPut.k e4 (by rw [← kvR_length r4, ← lim_eq]; exact of_decide_eq_true kk.2), ?_⟩
            have y : Ext (β ++ Fv) H (β ++ Fv) (upd H a (.dK (putK l pk vv))) := ⟨fun b o z nb => by rw [upd_ne (show b ≠ a from fun w => nb (by rw [w]; exact List.mem_of_getElem? ha1))]; exact z, fun b m => .inl m, ⟨[], by simp⟩⟩
            obtain ⟨okw, kw, yw⟩ := ok1.write (ob := .dK (putK l pk vv)) (o' := .dk (put k d kvs)) hn ha1 (.inr (.inl ⟨_, rfl⟩)) ⟨_, upd_same, (put_k p1 R1 r4).mono (Kp.of ok1 y) _ _⟩
            exact q _ okw kw yw
          · cases e3
        | dt kvs =>
          simp only [dput] at e3
          split at e3
          · rename_i kk
            cases e3
            rw [Bool.and_eq_true] at kk
            cases k with
            | tup ks =>
              simp only [Rel] at Ry'
              obtain ⟨b, us, rfl, e5, r5⟩ := Ry'
              obtain ⟨pk, p1, rfl⟩ := keys_ok (show ks.all G.keyOk = true from kk.1) r5
              obtain ⟨l, e4, r4⟩ := ro
              refine .inr ⟨a, _, rfl, DPut.t e4 e5 (by rw [← kvT_length r4, ← lim_eq]; exact of_decide_eq_true kk.2), ?_⟩
              have y : Ext (β ++ Fv) H (β ++ Fv) (upd H a (.dT (putK l pk vv))) := ⟨fun b o z nb => by rw [upd_ne (show b ≠ a from fun w => nb (by rw [w]; exact List.mem_of_getElem? ha1))]; exact z, fun b m => .inl m, ⟨[], by simp⟩⟩
              obtain ⟨okw, kw, yw⟩ := ok1.write (ob := .dT (putK l pk vv)) (o' := .dt (put (.tup ks) d kvs)) hn ha1 (.inr (.inr ⟨_, rfl⟩)) ⟨_, upd_same, (put_t (k := .tup ks) p1 R1 r4).mono (Kp.of ok1 y) _ _⟩
              exact q _ okw kw yw
            | _ => cases kk.1
          · cases e3
      · cases e
  · cases e
theorem st_set {Γ : Gam} {W : WX} {o i e : E} {po pi pe : Expr} {pos pos' : Pos} (hu : X.A.units + 1 < cLine) (ho : PE X po (tE C X.K o)) (hi : PE X pi (tE C X.K i)) (he : PE X pe (tE C X.K e)) (hs : swapsWithSole [.Subscript po pi pos'] pe pos.line X.env = pure false)
    (ha : ∀ v, assign (.Subscript po pi pos') X.env v = (do
      let ov ← holding [v] (eval po X.env)
      let iv ← holding [v, ov] (eval pi X.env)
      standAt pos'
      holding [v, ov, iv] (setItem ov iv v)
      release [v, ov, iv] [])) :
    PS X (.Assign [.Subscript po pi pos'] pe pos) (tS C X.K Γ W (.set o i e)) :=
  imS (ps_asg he (pg_sub ho hi (set_put hu) ha) hs rfl rfl) fun En σ H q => by
    obtain ⟨β, ρ, h, ee, ok, p⟩ := q
    simp only [ex] at p
    obtain ⟨v, h1, e1, p⟩ := st_ok p
    obtain ⟨x, h2, e2, p⟩ := st_ok p
    obtain ⟨y, h3, e3, p⟩ := st_ok p
    refine oneE ee ok e1 fun vv H1 β1 Fv ok1 ee1 x1 Rv fv => ?_
    refine twoE ee1 ok1 e2 e3 fun vx vy H2 β2 Fx Fy ok2 ee2 x2 Rx Ry fxy nd => ?_
    have s1 := Rv.some
    have nb : ∀ a ∈ Fv, a ∉ β2 := fun a m mb => by
      rcases x2.nw a mb with z | z
      · exact (fv a m).1 z
      · exact s1 a m z
    cases es : setV h3 x y v with
    | none => rw [es] at p; exact p.elim
    | some h4 =>
      rw [es] at p
      refine setV_ok ok2 es Rx Ry (Rv.stay ok1 x2 fun a m => (fv a m).1) nb fun H' ok' k' x' => ?_
      have x3 : Ext β H (β2 ++ Fv) H2 := ext_box (x1.trans x2) fun a m => (fv a m).2
      exact p σ H' (β2 ++ Fv) ok' ((ee2.mono kp_append).mono k') (x3.trans x')
end
end G

/-! G16: displays of dicts, list comprehensions. -/
namespace G
open PySem PySem.Spec L2
section
variable {X : Cx} {C : Nat → List D → Hp → R Rv} {K : Frag} {σ : St} {ρ : Env} {β β1 : List Addr} {H H1 : AHp} {h h1 h2 h' : Hp} {r r1 r2 : Rv} {Q : VK} {En : Ends}
theorem tA_cons {e : E} {es : Es} {k : List V → AHp → Prop} (q : tA C K (.cons e es) σ H k) : tE C K e σ H fun x H1 => tA C K es σ H1 fun xs H2 => k (x :: xs) H2 := by
  obtain ⟨β, ρ, h, rs, h', ee, ok, e0, p⟩ := q
  simp only [evs] at e0
  obtain ⟨r1, h1, e1, e0⟩ := bind_ok e0
  obtain ⟨rs2, h2, e2, e0⟩ := bind_ok e0
  cases e0
  refine oneE ee ok e1 fun v H1 β1 F1 ok1 ee1 x1 R1 f1 => ?_
  refine ⟨β1, ρ, h1, rs2, h', ee1, ok1, e2, fun vs H2 β2 F2 ok2 x2 R2 nd2 f2 => ?_⟩
  have s1 := R1.some
  refine p (v :: vs) H2 β2 (F1 ++ F2) ok2 (x1.trans x2) ⟨v, vs, F1, F2, rfl, rfl, R1.stay ok1 x2 (fun a m => (f1 a m).1), R2⟩ ?_ fun a m => ?_
  · rw [List.nodup_append]
    refine ⟨?_, nd2, fun a m b m2 z => ?_⟩
    · cases r1 with
      | val d => rw [R1.1]; exact List.nodup_nil
      | new o => obtain ⟨a, _, e, _⟩ := R1; rw [e]; simp
    · subst z
      exact s1 a m (f2 a m2).2
  · rcases List.mem_append.mp m with m | m
    · refine ⟨fun mb => ?_, (f1 a m).2⟩
      rcases x2.nw a mb with z | z
      · exact (f1 a m).1 z
      · exact s1 a m z
    · exact ⟨(f2 a m).1, x1.none ok1 (f2 a m).2⟩
/-- the readings of a display's pairs -/
def trs (C : Nat → List D → Hp → R Rv) (K : Frag) : List (List Nat) → Es → List (TE × TE)
  | k :: ks, .cons e es => ((fun _ H Q => Q (V.str (tx k)) H), tE C K e) :: trs C K ks es
  | _, _ => []
def Es.len : Es → Nat
  | .nil => 0
  | .cons _ es => es.len + 1
theorem pairs_ok : ∀ (ks : List (List Nat)) (es : Es) (σ : St) (H : AHp) (k : List (V × V) → AHp → Prop), ks.length = es.len → tA C K es σ H (fun vs H1 => k ((ks.map fun s => V.str (tx s)).zip vs) H1) → tPairs (trs C K ks es) σ H k
  | [], .nil, σ, H, k, _, q => by
    obtain ⟨β, ρ, h, rs, h', ee, ok, e, p⟩ := q
    simp only [evs] at e
    cases e
    exact p [] H β [] ok Ext.refl ⟨rfl, rfl⟩ List.nodup_nil (fun _ m => nomatch m)
  | [], .cons e es, σ, H, k, l, q => by simp [Es.len] at l
  | s :: ks, .nil, σ, H, k, l, q => by simp [Es.len] at l
  | s :: ks, .cons e es, σ, H, k, l, q => by
    simp only [trs, tPairs]
    have q' := tA_cons q
    obtain ⟨β, ρ, h, r, h', ee, ok, e1, p⟩ := q'
    exact ⟨β, ρ, h, r, h', ee, ok, e1, fun v H1 β1 F ok1 x1 R1 f => pairs_ok ks es σ H1 _ (by simpa [Es.len] using l) (p v H1 β1 F ok1 x1 R1 f)⟩
/-- an object apart from the heap is written -/
theorem Kp.over {p : Addr} {ob ob' : HO} (e : H p = some ob) (m : (∃ vs, ob = .lst vs) ∨ (∃ l, ob = .dK l) ∨ ∃ l, ob = .dT l) : Kp K β H β (upd H p ob') := by
  have ne : ∀ a vs, H a = some (.tup vs) → a ≠ p := fun a vs s z => by
    rw [z, e] at s
    rcases m with ⟨_, rfl⟩ | ⟨_, rfl⟩ | ⟨_, rfl⟩ <;> cases s
  have ne2 : ∀ a o vs, H a = some (.frz o (.lst vs)) → a ≠ p := fun a o vs s z => by
    rw [z, e] at s
    rcases m with ⟨_, rfl⟩ | ⟨_, rfl⟩ | ⟨_, rfl⟩ <;> cases s
  refine ⟨fun a vs s => by rw [upd_ne (ne a vs s)]; exact s, fun a vs s => ?_, fun _ _ z => z⟩
  rcases s with ⟨o, s⟩ | s
  · exact .inl ⟨o, by rw [upd_ne (ne2 a o vs s)]; exact s⟩
  · exact .inr s
theorem HpOk.over {p : Addr} {ob ob' : HO} (ok : HpOk K β H h) (np : p ∉ β) (e : H p = Option.some ob) (m : (∃ vs, ob = .lst vs) ∨ (∃ l, ob = .dK l) ∨ ∃ l, ob = .dT l) : HpOk K β (upd H p ob') h :=
  ⟨ok.len, ok.nd, fun n o q => by
    obtain ⟨a, e1, x⟩ := ok.obj n o q
    exact ⟨a, e1, x.mono (Kp.over e m) fun o2 q2 => by rw [upd_ne (show a ≠ p from fun z => np (by rw [← z]; exact List.mem_of_getElem? e1))]; exact q2⟩⟩
def EsOk (X : Cx) (C : Nat → List D → Hp → R Rv) : Es → List Expr → Prop
  | .nil, l => l = []
  | .cons e es, l => ∃ pe t, l = pe :: t ∧ PE X pe (tE C X.K e) ∧ EsOk X C es t
def keysAt : List (List Nat) → List (Option Expr) → Prop
  | [], l => l = []
  | k :: ks, l => ∃ j pos t, l = some (.Constant (.str (tx k)) j pos) :: t ∧ keysAt ks t
theorem pps_ok {pos : Pos} : ∀ (ks : List (List Nat)) (es : Es) (pk : List (Option Expr)) (pv : List Expr), keysAt ks pk → EsOk X C es pv → ks.length = es.len → PPs X pos pk pv (trs C X.K ks es)
  | [], .nil, pk, pv, a, b, _ => by
    have a' : pk = [] := a
    have b' : pv = [] := b
    subst a' b'
    exact pps_nil
  | [], .cons e es, pk, pv, a, b, l => by simp [Es.len] at l
  | s :: ks, .nil, pk, pv, a, b, l => by simp [Es.len] at l
  | s :: ks, .cons e es, pk, pv, a, b, l => by
    obtain ⟨j, p, t, rfl, a⟩ := a
    obtain ⟨pe, u, rfl, he, b⟩ := b
    exact pps_cons pe_str he (pps_ok ks es t u a b (by simpa [Es.len] using l))
theorem mergeK_nodup : ∀ (kvs acc : List (Key × V)), (acc.map (·.1) ++ kvs.map (·.1)).Nodup → mergeK acc kvs = acc ++ kvs
  | [], acc, _ => by simp [mergeK]
  | (k, v) :: kvs, acc, nd => by
    have hk : k ∉ acc.map (·.1) := fun m => by
      rw [List.nodup_append] at nd
      exact nd.2.2 k m k (by simp) rfl
    have hp : putK acc k v = acc ++ [(k, v)] := by
      unfold putK
      rw [if_neg]
      simp only [List.any_eq_true, decide_eq_true_eq, not_exists, not_and]
      intro kv m z
      exact hk (by rw [← z]; exact List.mem_map_of_mem m)
    have e : mergeK acc ((k, v) :: kvs) = mergeK (acc ++ [(k, v)]) kvs := by
      unfold mergeK
      rw [List.foldl_cons, hp]
    rw [e, mergeK_nodup kvs (acc ++ [(k, v)]) (by simpa using nd)]
    simp
theorem keyed : ∀ (ks : List (List Nat)) (ds : List D) (vs : List V), Rels K β H ds vs → kvR K β H ((ks.map D.str).zip ds) ((ks.map fun s => (.inr (tx s) : Key)).zip vs)
  | [], ds, vs, _ => rfl
  | s :: ks, [], vs, q => by simp only [Rels] at q; subst q; rfl
  | s :: ks, d :: ds, vs, q => by
    simp only [Rels] at q
    obtain ⟨v, t, rfl, q1, q2⟩ := q
    exact ⟨_, v, _, rfl, rfl, q1, keyed ks ds t q2⟩
theorem zip_kV : ∀ (ks : List (List Nat)) (vs : List V), (ks.map fun s => V.str (tx s)).zip vs = ((ks.map fun s => (.inr (tx s) : Key)).zip vs).map fun kv => (kV kv.1, kv.2)
  | [], vs => rfl
  | s :: ks, [] => rfl
  | s :: ks, v :: vs => by simp [zip_kV ks vs]; rfl
theorem map_fst_zip : ∀ (ks : List Key) (vs : List V), ks.length = vs.length → (ks.zip vs).map (·.1) = ks
  | [], vs, _ => rfl
  | s :: ks, [], l => by simp at l
  | s :: ks, v :: vs, l => by simp [map_fst_zip ks vs (by simpa using l)]
theorem nodup_keys : ∀ (ks : List (List Nat)), ks.Nodup → (ks.map fun s => (.inr (tx s) : Key)).Nodup
  | [], _ => List.nodup_nil
  | s :: ks, nd => by
    rw [List.nodup_cons] at nd
    rw [List.map_cons, List.nodup_cons]
    refine ⟨fun m => ?_, nodup_keys ks nd.2⟩
    obtain ⟨t, mt, e⟩ := List.mem_map.mp m
    exact nd.1 (by rw [← tx_inj (Sum.inr.inj e)]; exact mt)
theorem s_dk {ks : List (List Nat)} {es : Es} {pk : List (Option Expr)} {pv : List Expr} {pos : Pos} (hk : keysAt ks pk) (hv : EsOk X C es pv) (hl : ks.length = es.len) (h0 : ks ≠ []) (h15 : ks.length ≤ 15) (hs : pk.all (·.isSome) = true) (hl2 : pk.length = pv.length) (hl3 : pk.length = ks.length) :
    PE X (.Dict pk pv pos) (tE C X.K (.dk ks es)) :=
  imE (pe_disp (pps_ok ks es pk pv hk hv hl) hs hl2 (fun z => h0 (by rw [z] at hl3; exact List.length_eq_zero_iff.mp hl3.symm)) (by rw [hl3]; exact h15)) fun σ H Q q => by
    obtain ⟨β, ρ, h, r, h', ee, ok, e, p⟩ := q
    simp only [ev] at e
    obtain ⟨rs, h1, e1, e⟩ := bind_ok e
    cases eb : boxAll h1 rs with
    | mk ds h2 =>
      rw [eb] at e
      obtain ⟨cc, rfl, rfl⟩ := when_ok e
      simp only [Bool.and_eq_true, decide_eq_true_eq] at cc
      obtain ⟨⟨c1, c2⟩, c3⟩ := cc
      intro a ha
      have xa : Ext β H β (upd H a (.dK [])) := Ext.new ha
      have na : a ∉ β := ok.notin ha
      refine pairs_ok ks es σ _ _ hl (boxedA (ee.mono (Kp.of ok xa)) (ok.new ha) e1 eb fun vs H1 β1 ok1 ee1 x1 R1 => ?_)
      have ea : H1 a = some (.dK []) := x1.fr a _ upd_same na
      have na1 : a ∉ β1 := fun m => by
        rcases x1.nw a m with z | z
        · exact na z
        · rw [upd_same] at z; cases z
      have le : (ks.map fun s => (.inr (tx s) : Key)).length = vs.length := by rw [List.length_map, c1, R1.length]
      refine ⟨ea, (ks.map fun s => (.inr (tx s) : Key)).zip vs, zip_kV ks vs, by rw [List.length_zip, ← le, Nat.min_self, List.length_map]; exact h15, ?_⟩
      rw [mergeK_nodup _ [] (by rw [List.map_nil, List.nil_append, map_fst_zip _ _ le]; exact nodup_keys ks c3), List.nil_append]
      have xo : Ext β H β1 (upd H1 a (.dK ((ks.map fun s => (.inr (tx s) : Key)).zip vs))) := ⟨fun b o eo nb => by
        have : b ≠ a := fun z => by rw [z, ha] at eo; cases eo
        rw [upd_ne this]
        exact x1.fr b o (by rw [upd_ne this]; exact eo) nb, fun b m => (x1.nw b m).elim .inl fun z => by
          by_cases hb : b = a
          · rw [hb]; exact .inr ha
          · rw [upd_ne hb] at z; exact .inr z, x1.pre⟩
      refine p (.ref a) _ β1 [a] (ok1.over na1 ea (.inr (.inl ⟨_, rfl⟩))) xo ⟨a, rfl, rfl, _, upd_same, (keyed ks ds vs R1).mono (Kp.over ea (.inr (.inl ⟨_, rfl⟩))) _ _⟩ fun b m => ?_
      simp at m
      subst m
      exact ⟨na1, ha⟩
/-! ### list comprehensions -/
def tTs (C : Nat → List D → Hp → R Rv) (K : Frag) (cs : Es) : TT := fun σ H Q => ∃ β ρ h b h', EnvOk K β H σ ρ ∧ HpOk K β H h ∧ tsts C cs ρ h = .ok b h' ∧ PostB K β H h' (Q b)
theorem ts_nil : PTs X [] (tTs C X.K .nil) := ⟨fun pins s σ H Q I q => pts_nil.run pins s σ H Q I (by
  obtain ⟨β, ρ, h, b, h', ee, ok, e, p⟩ := q
  simp only [tsts] at e
  cases e
  exact p H β ok Ext.refl)⟩
theorem ts_one {e : E} {pe : Expr} (he : PT X pe (tT C X.K e)) : PTs X [pe] (tTs C X.K (.cons e .nil)) := ⟨fun pins s σ H Q I q => (pts_one he).run pins s σ H Q I (by
  obtain ⟨β, ρ, h, b, h', ee, ok, e, p⟩ := q
  simp only [tsts] at e
  exact ⟨β, ρ, h, b, h', ee, ok, e, p⟩)⟩
theorem wipe_wipe {σ : St} {vs : List Nat} : wipe (wipe σ vs) vs = wipe σ vs := by
  apply List.ext_getElem?
  intro j
  rw [wipe_get, wipe_get, wipe_length]
  split
  · rfl
  · rfl
def lcF (C : Nat → List D → Hp → R Rv) (ρ : Env) (own : List Nat) (tg : Tg) (cs : Es) (elt : E) : D → Hp → R (List D) := fun d h => match bindTg (wipeE ρ own) tg d with
  | some ρ1 => (tsts C cs ρ1 h).bind fun b h => match b with
    | true => (ev C elt ρ1 h).bind fun r h => match boxOne h r with
      | (d, h1) => .ok [d] h1
    | false => .ok [] h
  | none => .bad
theorem compL_ok {ws : List (Nat × List D)} {f : D → Hp → R (List D)} {d : D} {ds zs : List D} (e : compL ws f (d :: ds) h = .ok zs h') : same h ws = true ∧ ∃ xs h1 ys, f d h = .ok xs h1 ∧ compL ws f ds h1 = .ok ys h' ∧ zs = xs ++ ys := by
  simp only [compL] at e
  split at e
  · rename_i sm
    split at e
    · rename_i xs h1 e1
      split at e
      · rename_i ys h2 e2
        cases e
        exact ⟨sm, xs, h1, ys, e1, e2, rfl⟩
      · cases e
    · cases e
  · cases e
theorem lc_read {own : List Nat} {tg : Tg} {it : It} {cs : Es} {elt : E} (hsub : ∀ i ∈ tg.slots, i ∈ own) (σ : St) (H : AHp) (Q : VK) (q : tE C K (.lc own tg it cs elt) σ H Q) : tLc (tI C K it) (tG K tg) (tTs C K cs) (tE C K elt) own σ H Q := by
  obtain ⟨β, ρ, h, r, h', ee, ok, e, p⟩ := q
  simp only [ev] at e
  obtain ⟨⟨ds, ws⟩, h1, e1, e⟩ := bind_ok e
  obtain ⟨zs, h2, e2, e⟩ := bind_ok e
  obtain ⟨c1, rfl, rfl⟩ := when_ok e
  have c1 := of_decide_eq_true c1
  refine ⟨β, ρ, h, (ds, ws), h1, ee, ok, e1, fun J H1 β1 ok1 x1 g D hD => ?_⟩
  simp only at g e2
  have e2 : compL ws (lcF C ρ own tg cs elt) ds h1 = .ok zs h' := e2
  have nD1 : D ∉ β1 := ok1.notin hD
  have hD0 : H D = none := x1.none ok1 hD
  refine ⟨fun i m H2 => m = ds.length - i ∧ i ≤ ds.length ∧ ∃ β2 h2 acc accV ys, HpOk K β2 H2 h2 ∧ Ext β1 H1 β2 H2 ∧ D ∉ β2 ∧ H2 D = some (.lst accV) ∧ Rels K β2 H2 acc accV ∧ compL ws (lcF C ρ own tg cs elt) (ds.drop i) h2 = .ok ys h' ∧ acc ++ ys = zs,
    ⟨ds.length, rfl, Nat.zero_le _, β1, h1, [], [], zs, ok1.new hD, Ext.new hD, nD1, upd_same, Rels.nil, e2, rfl⟩, ?_⟩
  rintro i m H2 ⟨rfl, hi, β2, h2, acc, accV, ys, ok2, x2, nD2, eD2, ra, ec, ez⟩
  by_cases hlt : i < ds.length
  · have ed : ds.drop i = ds[i] :: ds.drop (i + 1) := List.drop_eq_getElem_cons hlt
    rw [ed] at ec
    obtain ⟨sm, xs, h3, zs2, ef, ec2, rfl⟩ := compL_ok ec
    refine .inr ⟨g.go i β2 H2 h2 ok2 x2 sm hlt, fun H3 => ∃ β2 h2 acc accV ys, HpOk K β2 H3 h2 ∧ Ext β1 H1 β2 H3 ∧ D ∉ β2 ∧ H3 D = some (.lst accV) ∧ Rels K β2 H3 acc accV ∧ compL ws (lcF C ρ own tg cs elt) (ds.drop (i + 1)) h2 = .ok ys h' ∧ acc ++ ys = zs,
      fun H3 k => ⟨ds.length - (i + 1), by omega, rfl, hlt, k⟩, fun v H3 y => ?_⟩
    obtain ⟨ok3, x3, d, hd, rd⟩ := g.yld i β2 H2 h2 v H3 ok2 x2 sm hlt y
    rw [List.getElem?_eq_getElem hlt] at hd
    cases hd
    have eD3 : H3 D = some (.lst accV) := x3.fr D _ eD2 nD2
    have ra3 := ra.mono (Kp.of ok2 x3) _ _
    unfold lcF at ef
    split at ef
    · rename_i ρ1 hb
      obtain ⟨b, h4, et, ef⟩ := bind_ok ef
      have xa : Ext β H β2 H3 := x1.trans (x2.trans x3)
      refine ⟨β2, wipeE ρ own, h2, ds[i], ρ1, ok3, (ee.mono (Kp.of ok xa)).wipe, rd, hb, fun σ' ee' hw => ⟨by rw [hw own hsub, wipe_wipe], ?_⟩⟩
      refine ⟨β2, ρ1, h2, b, h4, ee', ok3, et, fun H4 β4 ok4 x4 => ?_⟩
      have eD4 : H4 D = some (.lst accV) := x4.fr D _ eD3 nD2
      have nD4 : D ∉ β4 := fun mm => by
        rcases x4.nw D mm with z | z
        · exact nD2 z
        · rw [eD3] at z; cases z
      have ee4 := ee'.mono (Kp.of ok3 x4)
      have ra4 := ra3.mono (Kp.of ok3 x4) _ _
      have xt : Ext β1 H1 β4 H4 := (x2.trans x3).trans x4
      cases b with
      | false =>
        cases ef
        exact ⟨β4, h3, acc, accV, zs2, ok4, xt, nD4, eD4, ra4, ec2, by simpa using ez⟩
      | true =>
        obtain ⟨r5, h5, e5, ef⟩ := bind_ok ef
        refine oneE ee4 ok4 e5 fun v5 H5 β5 F5 ok5 ee5 x5 R5 f5 => ?_
        cases eb : boxOne h5 r5 with
        | mk d5 h6 =>
          rw [eb] at ef
          cases ef
          obtain ⟨ok6, R6⟩ := boxOne_ok ok5 R5 (fun a m => (f5 a m).1) eb
          have eD5 : H5 D = some (.lst accV) := x5.fr D _ eD4 nD4
          have nD6 : D ∉ β5 ++ F5 := fun mm => by
            rcases List.mem_append.mp mm with mm | mm
            · rcases x5.nw D mm with z | z
              · exact nD4 z
              · rw [eD4] at z; cases z
            · have := (f5 D mm).2
              rw [eD4] at this
              cases this
          have ra6 := (ra4.mono (Kp.of ok4 x5) _ _).mono (kp_append (F := F5)) _ _
          have len : acc.length + 1 ≤ lim := by
            rw [← ez] at c1
            simp at c1
            omega
          have x6 : Ext β4 H4 (β5 ++ F5) H5 := ext_box x5 fun a m => (f5 a m).2
          have ko : Kp K (β5 ++ F5) H5 (β5 ++ F5) (upd H5 D (.lst (accV ++ [v5]))) := Kp.over eD5 (.inl ⟨_, rfl⟩)
          refine ⟨accV, eD5, by rw [← ra.length, ← lim_eq]; omega, β5 ++ F5, h3, acc ++ [d5], accV ++ [v5], zs2, ok6.over nD6 eD5 (.inl ⟨_, rfl⟩), ?_, nD6, upd_same, (Rels.append ra6 (Rels.cons R6 Rels.nil)).mono ko _ _, ec2, by simpa using ez⟩
          have x7 : Ext β1 H1 (β5 ++ F5) H5 := xt.trans x6
          exact ⟨fun a o ea na => by
            rw [upd_ne (show a ≠ D from fun z => by rw [z, hD] at ea; cases ea)]
            exact x7.fr a o ea na, x7.nw, x7.pre⟩
    · cases ef
  · have hi' : i = ds.length := by omega
    subst hi'
    rw [List.drop_length] at ec
    simp only [compL] at ec
    split at ec
    · rename_i sm
      cases ec
      rw [List.append_nil] at ez
      subst ez
      refine .inl ⟨g.stop β2 H2 h' ok2 x2 sm, p (.ref D) H2 β2 [D] ok2 (x1.trans x2) ⟨D, rfl, rfl, accV, eD2, ra⟩ fun a m => ?_⟩
      simp at m
      subst m
      exact ⟨nD2, hD0⟩
    · cases ec
end
end G

/-! G17: calls, where no repr is under way. -/
namespace G
open PySem PySem.Spec L2
open PyProof.Rows hiding St
section
variable {Pg : Program} {w : World} {K : Frag} {mg : Str → Option Value} {bs : Heap} {Cc : CXT} {n : Nat} {fa : Addr} {fd : FuncData} {ps : List Str} {sp : Sp}
/-- a def keeps its promise wherever no repr is under way -/
structure FnG (Pg : Program) (w : World) (K : Frag) (mg : Str → Option Value) (bs : Heap) (Cc : CXT) (n : Nat) (fa : Addr) (fd : FuncData) (ps : List Str) (sp : Sp) : Prop where
  len : ∀ vs H Q E, sp vs H Q E → vs.length = ps.length
  run : ∀ (A : Around) (out : List PySem.Env) (s : Shared) (H : AHp) (ar : Args) (us : List Value) (vs : List V) (Q : VK) (E : XK), A.guards = some [] → Room n A → Env0 Pg w K mg bs A out s H → BindsTo s fd ar (ps.zip us) → Vals vs us →
    sp vs H Q E → codeAny (model Pg w) A (.call (.ref fa) ar) (CR Cc out Pg w H s Q E) s
theorem FnG.mono {m : Nat} (F : FnG Pg w K mg bs Cc m fa fd ps sp) (h : m ≤ n) : FnG Pg w K mg bs Cc n fa fd ps sp :=
  ⟨F.len, fun A out s H ar us vs Q E hg hr => F.run A out s H ar us vs Q E hg (hr.mono h)⟩
theorem deeper_guards {A : Around} {env : PySem.Env} (h : A.guards = some []) : (A.deeper env).guards = some [] := h
/-- a def of the text, by its body -/
theorem fnG_of {x qual : Str} {params : Arguments} {body : List Stmt} {scope : Scope} {dvs : List V} {kws : List (Str × V)} {N : List Str} (F : FunD K x qual params body scope dvs kws fa fd) (S : FnScope N ps scope)
    (len : ∀ vs H Q E, sp vs H Q E → vs.length = ps.length)
    (hb : ∀ (cv : Value) (A : Around) (out : List PySem.Env) (s : Shared) (H : AHp) (vs : List V) (Q : VK) (E : XK), A.guards = some [] → Room n (A.deeper (envOfC qual scope s.heap.objs.size fa cv)) → sp vs H Q E →
      ∃ t, PSs (cxOf Cc Pg w K mg bs N qual scope fa cv A out s H E) body t ∧ t { nx := fun _ Hn => Q .non Hn, rt := Q } (start N vs) H) : FnG Pg w K mg bs Cc (n + 1) fa fd ps sp := by
  obtain ⟨oc, od, dV, kV, dc, pm, an, cv, ct, osl, rfl, lk, hcd, _, _⟩ := F.ex
  refine ⟨len, fun A out s H ar us vs Q E hg hr e0 bt rv hsp => ?_⟩
  have inK : K.In s.heap := e0.mod.kin.keeps fun a o q => (e0.bs a o q).1
  have nl : s.heap.NoLimit := e0.mod.nolimit.keeps fun a o q => (e0.bs a o q).1
  have kinds : ∀ y ∈ ps.zip us, scope.names.lookup y.1 = some .local ∨ (scope.names.lookup y.1 = some .cell ∧ ((cellsFrom (s.heap.objs.size + 1) scope.names []).lookup y.1).isSome = true) := by
    rintro ⟨nm, u⟩ hy
    cases S.par nm (List.of_mem_zip hy).1 with
    | inl q => exact .inl q
    | inr q => exact .inr ⟨q, PySem.W.cellsFrom_some _ _ _ (.inl q)⟩
  refine codeAny_call_function hr.depth (inK _ _ lk) rfl S.co S.gen rfl (PySem.W.codeRec_of inK hcd) (bt _ _ _ _ (wpAny_newFunctionEnv_cells S.kind kinds fun env he s2 x => ?_))
  subst he
  refine ⟨nl.keeps x.toInCall.keep, codeAny_func ?_⟩
  obtain ⟨t, ht, hq⟩ := hb cv A out s H vs Q E hg (hr.deeper _) hsp
  have I0 : Inv (cxOf Cc Pg w K mg bs N qual scope fa cv A out s H E) [] (start N vs) H s2 := inv_start S hr.hd e0 (len _ _ _ _ hsp) rv x
  refine wpAny_mono (ht.run [] s2 (start N vs) H _ I0 hq) (fun fl s3 hs => ?_) fun _ _ hs => hs
  cases fl with
  | ret u =>
    obtain ⟨v, σ3, H3, J, r3, q⟩ := hs
    exact ⟨v, H3, J.os, J.bare, J.base, J.hok, r3, q⟩
  | next =>
    obtain ⟨σ3, H3, J, q⟩ := hs
    exact ⟨V.non, H3, J.os, J.bare, J.base, J.hok, rfl, q⟩
  | brk => exact hs.choose_spec.choose_spec.2.elim
  | cont => exact hs.choose_spec.choose_spec.2.elim
end
section
variable {X : Cx} {Cc : CXT} {n : Nat} {fa : Addr} {fd : FuncData} {ps : List Str} {sp : Sp} {E : XK}
theorem runG {pins : List (Addr × Obj)} {σ : St} {H : AHp} {s : Shared} {Q : VK} {us : List Value} {vs : List V} (F : FnG X.prog X.w X.K X.mg X.base Cc n fa fd ps sp) (hg : X.A.guards = some []) (hr : Room n X.A) (hb : Binds X.K fd ps []) (hx : Passes Cc X E)
    (I : Inv X pins σ H s) (rv : Vals vs us) (h : sp vs H Q E) : wpAny (model X.prog X.w) X.A (call (.ref fa) us) (EP X pins σ Q) X.xe s := by
  have hl : us.length = ps.length := by rw [← rv.length]; exact F.len _ _ _ _ h
  have bt : BindsTo s fd ⟨us, []⟩ (ps.zip us) := by simpa using hb s us I.kIn (by simpa using hl)
  refine wpAny_call (codeAny_mono (F.run X.A X.stack s H ⟨us, []⟩ us vs Q E hg hr I.env0 bt rv h) fun res s9 hq => ?_)
  match res, hq with
  | .error e, hq => exact hx pins σ H s e s9 I hq
  | .ok (.ret u), hq => exact I.after hq
theorem pe_callG {x : Str} {p pos : Pos} {e : Expr} {es : List Expr} {t : TA} (F : FnG X.prog X.w X.K X.mg X.base Cc n fa fd ps sp) (gd : X.A.guards = some []) (hr : Room n X.A) (hg : Gl X x) (hm : X.mg x = some (.ref fa)) (hk : PySem.W.keepIn X.K (.ref fa) = true) (hb : Binds X.K fd ps []) (hx : Passes Cc X E)
    (ha : PA X (e :: es) t) (hdb : (x == ("__debug__" : Str)) = false) (he : starEach (e :: es) X.env = (false, eval e X.env) :: starEach es X.env) (hpl : (backTo pos (starEach es X.env)).any (·.1) = false) :
    PE X (.Call (.Name x p) (e :: es) [] pos) (fun σ H Q => t σ H fun vs H1 => sp vs H1 Q E) :=
  ⟨fun pins s σ H Q I h => wpAny_Call_Name_kw (ld_glob I hg hm (PySem.W.callWith_K (h₀ := X.base) I.ok.mod.kin hk (thn (ha.run pos pins s σ H _ I h) fun us s7 ⟨vs, H7, I7, r7, q7⟩ => ⟨I7.kIn, runG F gd hr hb hx I7 r7 q7⟩) he hpl) hdb)⟩
theorem pe_callG0 {x : Str} {p pos : Pos} (F : FnG X.prog X.w X.K X.mg X.base Cc n fa fd ps sp) (gd : X.A.guards = some []) (hr : Room n X.A) (hg : Gl X x) (hm : X.mg x = some (.ref fa)) (hk : PySem.W.keepIn X.K (.ref fa) = true) (hb : Binds X.K fd ps []) (hx : Passes Cc X E)
    (hdb : (x == ("__debug__" : Str)) = false) : PE X (.Call (.Name x p) [] [] pos) (fun σ H Q => sp [] H Q E) :=
  ⟨fun pins s σ H Q I h => wpAny_Call_Name_kw (ld_glob I hg hm (PySem.W.callWith_K0 I.kIn hk (runG (us := []) F gd hr hb hx I .nil h)) hdb)⟩
end
/-- the promise of a def by what it does -/
def spC (C : Nat → List D → Hp → R Rv) (Γ : Gam) (K : Frag) (f np : Nat) : Sp := fun vs H Q E => vs.length = np ∧ ∃ β h ds, HpOk K β H h ∧ Rels K β H ds vs ∧ ((∃ r h', C f ds h = .ok r h' ∧ PostR K β H h' r Q) ∨ ∃ c es h', C f ds h = .exc c es h' ∧ PostX Γ K β H h' c es E)
section
variable {X : Cx} {C : Nat → List D → Hp → R Rv} {K : Frag} {σ : St} {ρ : Env} {β β1 : List Addr} {H H1 : AHp} {h h1 h2 h' : Hp} {r r1 r2 : Rv} {Q : VK} {En : Ends}
/-! ### values without references -/
mutual
theorem Rel.free {β' : List Addr} : ∀ (d : D) (v : V), d.free = true → Rel K β H d v → Rel K β' H d v
  | .non, _, _, x => by simpa [Rel] using x
  | .bl _, _, _, x => by simpa [Rel] using x
  | .int _, _, _, x => by simpa [Rel] using x
  | .str _, _, _, x => by simpa [Rel] using x
  | .tup ds, v, e, x => by
    simp only [Rel] at x ⊢
    obtain ⟨a, vs, e1, s, q⟩ := x
    exact ⟨a, vs, e1, s, Rels.free ds vs (by simpa [D.free] using e) q⟩
  | .ktup ds, v, e, x => by
    simp only [Rel] at x ⊢
    obtain ⟨a, vs, e1, s, q⟩ := x
    exact ⟨a, vs, e1, s, Rels.free ds vs (by simpa [D.free] using e) q⟩
  | .rol ds, v, e, x => by
    simp only [Rel] at x ⊢
    obtain ⟨a, vs, e1, s, q⟩ := x
    exact ⟨a, vs, e1, s, Rels.free ds vs (by simpa [D.free] using e) q⟩
  | .ref n, v, e, x => by simp [D.free] at e
theorem Rels.free {β' : List Addr} : ∀ (ds : List D) (vs : List V), D.frees ds = true → Rels K β H ds vs → Rels K β' H ds vs
  | [], _, _, x => by simpa [Rels] using x
  | d :: ds, vs, e, x => by
    simp only [D.frees, Bool.and_eq_true] at e
    simp only [Rels] at x ⊢
    obtain ⟨v, t, e1, q1, q2⟩ := x
    exact ⟨v, t, e1, Rel.free d v e.1 q1, Rels.free ds t e.2 q2⟩
end
theorem kvR_free {β' : List Addr} : ∀ (kvs : List (D × D)) (l : List (Key × V)), freeKv kvs = true → kvR K β H kvs l → kvR K β' H kvs l
  | [], _, _, x => x
  | (k, v) :: t, l, e, x => by
    simp only [freeKv, Bool.and_eq_true] at e
    obtain ⟨p, u, t', e1, x1, x2, x3⟩ := x
    exact ⟨p, u, t', e1, x1, Rel.free v u e.1.2 x2, kvR_free t t' e.2 x3⟩
theorem kvT_free {β' : List Addr} : ∀ (kvs : List (D × D)) (l : List (List Key × V)), freeKv kvs = true → kvT K β H kvs l → kvT K β' H kvs l
  | [], _, _, x => x
  | (k, v) :: t, l, e, x => by
    simp only [freeKv, Bool.and_eq_true] at e
    obtain ⟨p, u, t', e1, x1, x2, x3⟩ := x
    exact ⟨p, u, t', e1, x1, Rel.free v u e.1.2 x2, kvT_free t t' e.2 x3⟩
theorem ObjR.free {β' : List Addr} {o : O} {a : Addr} (e : o.free = true) (x : ObjR K β H o a) : ObjR K β' H o a := by
  cases o with
  | lst ds => obtain ⟨vs, s, q⟩ := x; exact ⟨vs, s, Rels.free ds vs e q⟩
  | dk kvs => obtain ⟨l, s, q⟩ := x; exact ⟨l, s, kvR_free kvs l e q⟩
  | dt kvs => obtain ⟨l, s, q⟩ := x; exact ⟨l, s, kvT_free kvs l e q⟩
theorem RelR.free {β' : List Addr} {v : V} {F : List Addr} (e : r.free = true) (x : RelR K β H r v F) : RelR K β' H r v F := by
  cases r with
  | val d => exact ⟨x.1, Rel.free d v e x.2⟩
  | new o => obtain ⟨a, e1, e2, q⟩ := x; exact ⟨a, e1, e2, q.free e⟩
theorem RelRs.free {β' : List Addr} : ∀ {rs : List Rv} {vs : List V} {F : List Addr}, rs.all Rv.free = true → RelRs K β H rs vs F → RelRs K β' H rs vs F
  | [], _, _, _, x => x
  | r :: rs, vs, F, e, x => by
    simp only [List.all_cons, Bool.and_eq_true] at e
    obtain ⟨v, t, F1, F2, e1, e2, x1, x2⟩ := x
    exact ⟨v, t, F1, F2, e1, e2, x1.free e.1, RelRs.free e.2 x2⟩
theorem RelRs.somes : ∀ {rs : List Rv} {vs : List V} {F : List Addr}, RelRs K β H rs vs F → ∀ a ∈ F, H a ≠ none
  | [], _, _, x, a, m => by obtain ⟨_, rfl⟩ := x; cases m
  | r :: rs, vs, F, x, a, m => by
    obtain ⟨v, t, F1, F2, _, rfl, x1, x2⟩ := x
    rcases List.mem_append.mp m with m | m
    · exact x1.some a m
    · exact RelRs.somes x2 a m
theorem HpOk.nil : HpOk K [] H [] := ⟨rfl, List.nodup_nil, fun n o e => by simp at e⟩
theorem RelRs.length : ∀ {rs : List Rv} {vs : List V} {F : List Addr}, RelRs K β H rs vs F → vs.length = rs.length
  | [], _, _, x => by obtain ⟨rfl, _⟩ := x; rfl
  | r :: rs, vs, F, x => by
    obtain ⟨v, t, F1, F2, rfl, _, _, x2⟩ := x
    simp [RelRs.length x2]
/-- what a call of a def does -/
theorem call_read {Γ : Gam} {f np : Nat} {rs : List Rv} {vs : List V} {F : List Addr} {E : XK} (hl : rs.length = np) (ok : HpOk K β1 H1 h1) (x1 : Ext β H β1 H1) (R1 : RelRs K β1 H1 rs vs F) (nd : F.Nodup) (f1 : ∀ a ∈ F, a ∉ β1 ∧ H a = none)
    (e : callV C f rs h1 = .ok r h') (p : PostR K β H h' r Q) : spC C Γ K f np vs H1 Q E := by
  refine ⟨by rw [R1.length, hl], ?_⟩
  have shared : (match boxAll h1 rs with | (ds, h3) => C f ds h3) = .ok r h' → ∃ β h ds, HpOk K β H1 h ∧ Rels K β H1 ds vs ∧ ((∃ r h', C f ds h = .ok r h' ∧ PostR K β H1 h' r Q) ∨ ∃ c es h', C f ds h = .exc c es h' ∧ PostX Γ K β H1 h' c es E) := fun e => by
    cases eb : boxAll h1 rs with
    | mk ds h3 =>
      simp only [eb] at e
      obtain ⟨ok3, q3⟩ := boxAll_ok ok R1 nd (fun a m => (f1 a m).1) eb
      exact ⟨β1 ++ F, h3, ds, ok3, q3, .inl ⟨r, h', e, PostR.later ok3 (ext_box x1 fun a m => (f1 a m).2) p⟩⟩
  unfold callV at e
  split at e
  · rename_i fr
    cases eb : boxAll [] rs with
    | mk ds h0 =>
      simp only [eb] at e
      obtain ⟨ok0, q0⟩ := boxAll_ok (β := []) (h := []) HpOk.nil (R1.free fr) nd (fun a m mb => by cases mb) eb
      rw [List.nil_append] at ok0 q0
      split at e
      · rename_i r9 hc ec
        split at e
        · rename_i r8 eu
          have er : r8 = r := by cases e; rfl
          have eh : h1 = h' := by cases e; rfl
          subst er eh
          refine ⟨F, h0, ds, ok0, q0, .inl ⟨r9, hc, ec, fun v H2 β2 F2 ok2 x2 R2 f2 => ?_⟩⟩
          have k0 := Kp.of ok0 x2
          have k1 : Kp K β1 H1 β1 H2 := ⟨k0.tup, k0.rol, fun _ _ z => z⟩
          have nF : ∀ a ∈ β1, a ∉ F := fun a m mf => (f1 a mf).1 m
          have ok9 : HpOk K β1 H2 h1 := ⟨ok.len, ok.nd, fun n o q => by
            obtain ⟨a, ea, x⟩ := ok.obj n o q
            exact ⟨a, ea, x.mono k1 fun o2 q2 => x2.fr a o2 q2 (nF a (List.mem_of_getElem? ea))⟩⟩
          have x9 : Ext β H β1 H2 := ⟨fun a o ea na => x2.fr a o (x1.fr a o ea na) (fun mf => by rw [(f1 a mf).2] at ea; cases ea), x1.nw, x1.pre⟩
          have old : ∀ a, H1 a = none → a ∉ β1 ∧ H a = none := fun a ea => ⟨ok.notin ea, x1.none ok ea⟩
          have plain : r9.free = true → r8 = r9 → Q v H2 := fun fr9 e8 => by
            subst e8
            exact p v H2 β1 F2 ok9 x9 (R2.free fr9) fun a m => old a (f2 a m).2
          have byIf : (if r9.free = true then some r9 else none) = some r8 → Q v H2 := fun z => by
            split at z
            · rename_i fr9
              cases z
              exact plain fr9 rfl
            · cases z
          cases r9 with
          | new o => exact byIf eu
          | val d =>
            cases d with
            | ref m =>
              simp only [unbox] at eu
              cases eo : hc[m]? with
              | none => rw [eo] at eu; cases eu
              | some o =>
                simp only [eo, Option.bind] at eu
                split at eu
                · rename_i fo
                  cases eu
                  have R2' := R2.2
                  simp only [Rel] at R2'
                  obtain ⟨a, rfl, ea⟩ := R2'
                  obtain ⟨a', ea', ob⟩ := ok2.obj m o eo
                  rw [ea] at ea'
                  cases ea'
                  refine p (.ref a) H2 β1 [a] ok9 x9 ⟨a, rfl, rfl, ob.free fo⟩ fun b mb => ?_
                  simp at mb
                  subst mb
                  rcases x2.nw b (List.mem_of_getElem? ea) with z | z
                  · exact f1 b z
                  · exact old b z
                · cases eu
            | _ => exact byIf eu
        · exact shared e
      · split at e
        · cases e
        · exact shared e
      · cases e
  · exact shared e
def Es.toL : Es → List E
  | .nil => []
  | .cons e es => e :: es.toL
theorem evs_length : ∀ (es : Es) (ρ : Env) (h : Hp) {rs : List Rv} {h' : Hp}, evs C es ρ h = .ok rs h' → rs.length = es.len
  | .nil, ρ, h, rs, h', e => by simp only [evs] at e; cases e; rfl
  | .cons e0 es, ρ, h, rs, h', e => by
    simp only [evs] at e
    obtain ⟨r1, h1, e1, e⟩ := bind_ok e
    obtain ⟨rs2, h2, e2, e⟩ := bind_ok e
    cases e
    simp [Es.len, evs_length es ρ h1 e2]
theorem call_tA {Γ : Gam} {f : Nat} {es : Es} {E : XK} {np : Nat} (hn : es.len = np) (σ : St) (H : AHp) (Q : VK) (q : tE C K (.call f es) σ H Q) : tA C K es σ H fun vs H1 => spC C Γ K f np vs H1 Q E := by
  obtain ⟨β, ρ, h, r, h', ee, ok, e, p⟩ := q
  simp only [ev] at e
  obtain ⟨rs, h1, e1, e⟩ := bind_ok e
  exact ⟨β, ρ, h, rs, h1, ee, ok, e1, fun vs H1 β1 F ok1 x1 R1 nd f1 => call_read (by rw [evs_length es ρ h e1, hn]) ok1 x1 R1 nd f1 e p⟩
end
end G

/-! H1: more methods. -/
namespace G
open PySem PySem.Spec L2
section
variable {X : Cx} {C : Nat → List D → Hp → R Rv} {K : Frag} {σ : St} {ρ : Env} {β : List Addr} {H : AHp} {h h1 h2 h' : Hp} {r r1 r2 : Rv} {Q : VK}
theorem s_extend {o a : E} {po pa : Expr} {apos pos : Pos} (ho : PE X po (tE C X.K o)) (ha : PE X pa (tE C X.K a)) (hb : plainBase po = true) (hl : (apos.endLine == pos.line) = true) (hs : starEach [pa] X.env = (false, eval pa X.env) :: starEach [] X.env) :
    PE X (.Call (.Attribute po "extend" apos) [pa] [] pos) (tE C X.K (.mt .extend o (.cons a .nil))) :=
  imE (pe_bm PySem.F.plainAttrs_list PySem.F.slot_list_extend PySem.F.type_list_extend mt_extend ho (a_cons ha a_nil hs) (base_of hb _ _ _) (few1 hs) hl hs rfl) fun σ H Q q => by
    obtain ⟨β, ρ, h, r, h', ee, ok, e, p⟩ := q
    simp only [ev] at e
    obtain ⟨r1, h1, e1, e⟩ := bind_ok e
    split at e
    · rename_i rc
      obtain ⟨n, xs0, rfl, hn0⟩ := recv_ref (.inr (.inl rfl)) rc
      obtain ⟨rs, h2, e2, e⟩ := bind_ok e
      refine oneE ee ok e1 fun v1 H1 β1 F1 ok1 ee1 x1 R1 f1 => ?_
      have R1' := R1.2
      simp only [Rel] at R1'
      obtain ⟨b, rfl, hb1⟩ := R1'
      refine ⟨?_, β1, ρ, h1, rs, h2, ee1, ok1, e2, fun vs H2 β2 F ok2 x2 R2 nd f => ?_⟩
      · obtain ⟨b', e3, ob⟩ := ok1.obj n _ hn0
        rw [hb1] at e3
        cases e3
        obtain ⟨vs, e4, _⟩ := ob
        exact .inl ⟨rfl, vs, SqL.of e4⟩
      · have hb2 := (Kp.of ok1 x2).ix n b hb1
        simp only [evs] at e2
        obtain ⟨ra, h3, e3, e2⟩ := bind_ok e2
        cases e2
        obtain ⟨v, t, G1, G2, rfl, rfl, Ra, rfl, rfl⟩ := R2
        rw [List.append_nil] at nd f
        simp only [mtV] at e
        split at e
        · rename_i xs hn
          cases eo : objOf h2 ra with
          | none => rw [eo] at e; cases e
          | some ob2 =>
            rw [eo] at e
            cases ob2 with
            | lst ys =>
              obtain ⟨e5, rfl, rfl⟩ := when_ok e
              obtain ⟨a2, rfl, us, e8, q8⟩ := objOf_ok ok2 Ra eo
              obtain ⟨b', e6, vl, e7, q7⟩ := ok2.obj n _ hn
              rw [hb2] at e6
              cases e6
              refine ⟨b, a2, vl, us, rfl, rfl, e7, e8, ?_, ?_⟩
              · rw [← q7.length, ← q8.length, ← lim_eq]; exact of_decide_eq_true e5
              · have y : Ext β2 H2 β2 (upd H2 b (.lst (vl ++ us))) := ⟨fun a o q na => by rw [upd_ne (show a ≠ b from fun z => na (by rw [z]; exact List.mem_of_getElem? hb2))]; exact q, fun a m => .inl m, ⟨[], by simp⟩⟩
                have k := Kp.of ok2 y
                obtain ⟨okw, _, yw⟩ := ok2.write (ob := .lst (vl ++ us)) (o' := .lst (xs ++ ys)) hn hb2 (.inl ⟨_, rfl⟩) ⟨_, upd_same, (Rels.append q7 q8).mono k _ _⟩
                exact p.val okw ((x1.trans x2).trans yw) mkNon
            | dk _ => cases e
            | dt _ => cases e
        · cases e
    · cases e
theorem s_pop {o : E} {po : Expr} {apos pos : Pos} (ho : PE X po (tE C X.K o)) (hb : plainBase po = true) (hl : (apos.endLine == pos.line) = true) :
    PE X (.Call (.Attribute po "pop" apos) [] [] pos) (tE C X.K (.mt .pop o .nil)) :=
  imE (pe_bm0 PySem.F.plainAttrs_list PySem.F.slot_list_pop PySem.F.type_list_pop mt_pop ho (base_of hb _ _ _) hl) fun σ H Q q => by
    obtain ⟨β, ρ, h, r, h', ee, ok, e, p⟩ := q
    simp only [ev, evs] at e
    obtain ⟨r1, h1, e1, e⟩ := bind_ok e
    split at e
    · rename_i rc
      obtain ⟨n, xs, rfl, hn⟩ := recv_ref (.inr (.inr rfl)) rc
      simp only [R.bind, mtV, hn] at e
      cases eg : xs.getLast? with
      | none => rw [eg] at e; cases e
      | some d =>
        rw [eg] at e
        cases e
        refine oneE ee ok e1 fun v1 H1 β1 F1 ok1 ee1 x1 R1 f1 => ?_
        have R1' := R1.2
        simp only [Rel] at R1'
        obtain ⟨b, rfl, hb1⟩ := R1'
        obtain ⟨b', e3, vl, e4, q4⟩ := ok1.obj n _ hn
        rw [hb1] at e3
        cases e3
        rw [List.getLast?_eq_getElem?] at eg
        obtain ⟨y, ey, ry⟩ := q4.get eg
        refine ⟨.inl ⟨rfl, vl, SqL.of e4⟩, b, vl, y, rfl, rfl, e4, by rw [← q4.length]; exact ey, ?_⟩
        have x2 : Ext β1 H1 β1 (upd H1 b (.lst vl.dropLast)) := ⟨fun a o q na => by rw [upd_ne (show a ≠ b from fun z => na (by rw [z]; exact List.mem_of_getElem? hb1))]; exact q, fun a m => .inl m, ⟨[], by simp⟩⟩
        have k := Kp.of ok1 x2
        have qd : Rels X.K β1 H1 xs.dropLast vl.dropLast := by
          rw [List.dropLast_eq_take, List.dropLast_eq_take, ← q4.length]
          exact q4.take _
        obtain ⟨okw, _, yw⟩ := ok1.write (ob := .lst vl.dropLast) (o' := .lst xs.dropLast) hn hb1 (.inl ⟨_, rfl⟩) ⟨_, upd_same, qd.mono k _ _⟩
        exact p.val okw (x1.trans yw) (ry.mono k _ _)
    · cases e
theorem m2_of {po pa pb : Expr} {m : Str} {apos pos : Pos} (hb : plainBase po = true) (hl : (apos.endLine == pos.line) = true) (hs : starEach [pa, pb] X.env = (false, eval pa X.env) :: starEach [pb] X.env) (hs2 : starEach [pb] X.env = (false, eval pb X.env) :: starEach [] X.env) : M2 X po m apos pa pb pos :=
  ⟨base_of hb _ _ _, by rw [hs, hs2]; rfl, hl, by rw [hs, hs2]; rfl⟩
theorem isD_of {v : V} {F : List Addr} (ok : HpOk K β H h) (R1 : RelR K β H r v F) (rc : recv h .get2 r = true) : ∃ a, v = .ref a ∧ IsD H a := by
  have main : ∀ o, objOf h r = some o → (match o with | .dk _ => true | .dt _ => true | _ => false) = true → ∃ a, v = .ref a ∧ IsD H a := fun o eo k => by
    obtain ⟨a, rfl, ob⟩ := objOf_ok ok R1 eo
    cases o with
    | lst _ => cases k
    | dk kvs => obtain ⟨l, e, _⟩ := ob; exact ⟨a, rfl, .inl ⟨l, .inl e⟩⟩
    | dt kvs => obtain ⟨l, e, _⟩ := ob; exact ⟨a, rfl, .inr ⟨l, .inl e⟩⟩
  cases eo : objOf h r with
  | none => simp [recv, eo] at rc
  | some o =>
    refine main o eo ?_
    cases o with
    | lst _ => simp [recv, eo] at rc
    | dk _ => rfl
    | dt _ => rfl
theorem s_get2 {o a b : E} {po pa pb : Expr} {apos pos : Pos} (hu : X.A.units + 1 < cLine) (ho : PE X po (tE C X.K o)) (ha : PE X pa (tE C X.K a)) (hb' : PE X pb (tE C X.K b)) (hb : plainBase po = true) (hl : (apos.endLine == pos.line) = true)
    (hs : starEach [pa, pb] X.env = (false, eval pa X.env) :: starEach [pb] X.env) (hs2 : starEach [pb] X.env = (false, eval pb X.env) :: starEach [] X.env) :
    PE X (.Call (.Attribute po "get" apos) [pa, pb] [] pos) (tE C X.K (.mt .get2 o (.cons a (.cons b .nil)))) :=
  imE (pe_dget2 hu ho ha hb' (m2_of hb hl hs hs2)) fun σ H Q q => by
    obtain ⟨β, ρ, h, r, h', ee, ok, e, p⟩ := q
    simp only [ev, evs] at e
    obtain ⟨r1, h1, e1, e⟩ := bind_ok e
    split at e
    · rename_i rc
      obtain ⟨rs, h2, e2, e⟩ := bind_ok e
      obtain ⟨ra, h3, e3, e2⟩ := bind_ok e2
      obtain ⟨rs2, h4, e4, e2⟩ := bind_ok e2
      obtain ⟨rb, h5, e5, e4⟩ := bind_ok e4
      cases e4
      cases e2
      refine oneE ee ok e1 fun v1 H1 β1 F1 ok1 ee1 x1 R1 f1 => ?_
      obtain ⟨ad, rfl, dd⟩ := isD_of ok1 R1 rc
      refine ⟨ad, rfl, dd, twoE ee1 ok1 e3 e5 fun va vb H2 β2 Fa Fb ok2 ee2 x2 Ra Rb fab nd => ?_⟩
      have R1' := R1.stay ok1 x2 fun a m => (f1 a m).1
      cases ra with
      | new _ => simp [mtV] at e
      | val kk =>
        cases rb with
        | new _ => simp [mtV] at e
        | val z =>
          simp only [mtV] at e
          obtain ⟨e6, rfl⟩ := opt_ok e
          cases eo : objOf h' r1 with
          | none => rw [eo] at e6; cases e6
          | some oo =>
            rw [eo] at e6
            obtain ⟨w, e7, rfl⟩ := map_some (show (dget kk oo).map _ = some r from e6)
            obtain ⟨a', ea, ob⟩ := objOf_ok ok2 R1' eo
            cases ea
            obtain ⟨wv, g, rel⟩ := dget_ok e7 ob Ra.2
            refine ⟨wv, g, p.val ok2 (x1.trans x2) ?_⟩
            cases w with
            | none =>
              have : wv = none := rel
              subst this
              exact Rb.2
            | some dv =>
              obtain ⟨v, rfl, rv⟩ := rel
              exact rv
    · cases e
end
end G

/-! H2: zip and enumerate over lists, tuples and texts in any mix. -/
namespace G
open PySem PySem.Spec L2
/-- what is drawn from -/
inductive Sk where
  | l (a : Addr) | t (a : Addr) | s (x : Str)
def signs (x : Str) : List V := x.cps.toList.map fun c => V.str ⟨#[c]⟩
def Sk.at (K : Frag) (H : AHp) : Sk → List V → Prop
  | .l a, xs => SqL K H a xs
  | .t a, xs => SqT K H a xs
  | .s x, xs => xs = signs x
/-- its iterator -/
def Sk.it (tk : Tok) (it : Addr) (i : Nat) (h : Heap) : Sk → Prop
  | .l a => h.IsListIter it a i
  | .t a => h.IsTupleIter it a i
  | .s x => h.IsStrIter it (strIterType x) x tk i
def Sk.val (tk : Tok) : Sk → Value
  | .l a => .ref a
  | .t a => .ref a
  | .s x => .str x tk
def Sk.v : Sk → V
  | .l a => .ref a
  | .t a => .ref a
  | .s x => .str x
def Sk.adr : Sk → List Addr
  | .l a => [a]
  | .t a => [a]
  | .s _ => []
def Sk.obj (tk : Tok) : Sk → Obj
  | .l a => { cls := .type "list_iterator", data := .fields #[.ref a, .int 0 0] }
  | .t a => { cls := .type "tuple_iterator", data := .fields #[.ref a, .int 0 0] }
  | .s x => { cls := .type (strIterType x), data := .fields #[.str x tk, .int 0 0] }
theorem Sk.it_obj {S : Sk} {tk : Tok} {p : Addr} {h : Heap} (e : h.get? p = some (S.obj tk)) : S.it tk p 0 h := by
  cases S with
  | l a => exact ⟨_, e, rfl, rfl⟩
  | t a => exact ⟨_, e, rfl, rfl⟩
  | s x => exact ⟨_, e, rfl, rfl⟩
theorem Sk.it_get {S : Sk} {tk : Tok} {p : Addr} {i : Nat} {h : Heap} (e : S.it tk p i h) : ∃ o, h.get? p = some o ∧ ∀ v, o.data ≠ .cell v := by
  cases S with
  | l a => obtain ⟨o, e1, _, e2⟩ := e; exact ⟨o, e1, fun v z => by rw [e2] at z; cases z⟩
  | t a => obtain ⟨o, e1, _, e2⟩ := e; exact ⟨o, e1, fun v z => by rw [e2] at z; cases z⟩
  | s x => obtain ⟨o, e1, _, e2⟩ := e; exact ⟨o, e1, fun v z => by rw [e2] at z; cases z⟩
theorem Sk.it_keep {S : Sk} {tk : Tok} {p : Addr} {i : Nat} {h h' : Heap} (e : S.it tk p i h) (k : ∀ o, h.get? p = some o → h'.get? p = some o) : S.it tk p i h' := by
  cases S with
  | l a => obtain ⟨o, e1, e2⟩ := e; exact ⟨o, k o e1, e2⟩
  | t a => obtain ⟨o, e1, e2⟩ := e; exact ⟨o, k o e1, e2⟩
  | s x => obtain ⟨o, e1, e2⟩ := e; exact ⟨o, k o e1, e2⟩
section
variable {X : Cx} {pins : List (Addr × Obj)} {σ : St} {H : AHp} {s : Shared}
theorem Sk.lt {S : Sk} {xs : List V} (I : Inv X pins σ H s) (q : S.at X.K H xs) : ∀ a ∈ S.adr, a < s.heap.objs.size := by
  intro a m
  cases S with
  | l b =>
    obtain ⟨its, _, p, _⟩ := I.list q
    have e : a = b := by simpa [Sk.adr] using m
    rw [e]; exact p.lt
  | t b =>
    obtain ⟨its, _, p, _⟩ := I.tuple q
    obtain ⟨o, ho, _⟩ := id p
    have e : a = b := by simpa [Sk.adr] using m
    rw [e]; exact Heap.lt_size ho
  | s x => cases m
theorem Sk.same {S : Sk} {xs ys : List V} (I : Inv X pins σ H s) (q : S.at X.K H xs) (r : S.at X.K H ys) : ys = xs := by
  cases S with
  | l a => exact I.list_inj r q
  | t a => exact I.tuple_inj r q
  | s x =>
    have q' : xs = signs x := q
    have r' : ys = signs x := r
    rw [q', r']
/-- what such an iterator draws -/
theorem Sk.draws {S : Sk} {xs : List V} {tk : Tok} {p : Addr} {i : Nat} {A : Around} (hh : A.handled = none) (I : Inv X pins σ H s) (q : S.at X.K H xs) (ne : p ∉ S.adr) (st : S.it tk p i s.heap) :
    ∃ (Pv : Nat → Value → Prop) (Sv : Nat → Heap → Prop), Draws X.prog X.w A p (p :: S.adr) xs.length Pv Sv ∧ Sv i s.heap ∧ (∀ j h, Sv j h → S.it tk p j h) ∧ ∀ j u, Pv j u → ∃ x, xs[j]? = some x ∧ RelV x u := by
  cases S with
  | l a =>
    obtain ⟨its, rv, pl, _⟩ := I.list q
    have hl : its.toArray.size = xs.length := by rw [List.size_toArray]; exact rv.length.symm
    refine ⟨_, _, hl ▸ Draws.list hh p a (fun z => ne (by rw [z]; simp [Sk.adr])) its.toArray, ⟨st, pl.isList⟩, fun j h z => z.1, fun j u z => ?_⟩
    have z' : its[j]? = some u := by simpa using z
    have hj : j < xs.length := by rw [rv.length]; exact (List.getElem?_eq_some_iff.mp z').1
    obtain ⟨u', e1, e2⟩ := rv.get (List.getElem?_eq_getElem hj)
    rw [z'] at e1
    cases e1
    exact ⟨_, List.getElem?_eq_getElem hj, e2⟩
  | t a =>
    obtain ⟨its, rv, pl, _⟩ := I.tuple q
    have hl : its.toArray.size = xs.length := by rw [List.size_toArray]; exact rv.length.symm
    refine ⟨_, _, hl ▸ Draws.tuple hh p a (fun z => ne (by rw [z]; simp [Sk.adr])) its.toArray, ⟨st, pl⟩, fun j h z => z.1, fun j u z => ?_⟩
    have z' : its[j]? = some u := by simpa using z
    have hj : j < xs.length := by rw [rv.length]; exact (List.getElem?_eq_some_iff.mp z').1
    obtain ⟨u', e1, e2⟩ := rv.get (List.getElem?_eq_getElem hj)
    rw [z'] at e1
    cases e1
    exact ⟨_, List.getElem?_eq_getElem hj, e2⟩
  | s x =>
    have q' : xs = signs x := q
    have hl : x.cps.size = xs.length := by rw [q']; simp [signs]
    refine ⟨_, _, hl ▸ Draws.text hh p x tk, st, fun j h z => z, fun j u z => ?_⟩
    obtain ⟨c, t', e1, e2⟩ := z
    refine ⟨.str ⟨#[c]⟩, ?_, ⟨t', e2⟩⟩
    rw [q']
    have e1' : x.cps.toList[j]? = some c := by simpa using e1
    simp only [signs, List.getElem?_map, e1', Option.map]
/-- how it begins -/
theorem Sk.begins {S : Sk} {xs : List V} {tk : Tok} (I : Inv X pins σ H s) (q : S.at X.K H xs) : ∃ Hb : Heap → Prop, Begins (S.val tk) (S.obj tk) Hb ∧ Hb s.heap := by
  cases S with
  | l a =>
    obtain ⟨its, _, p, _⟩ := I.list q
    exact ⟨_, begins_list a its.toArray, p.isList⟩
  | t a =>
    obtain ⟨its, _, p, _⟩ := I.tuple q
    exact ⟨_, begins_tuple a its.toArray, p⟩
  | s x => exact ⟨_, begins_text x tk, trivial⟩
end
/-! ### zip -/
def IZ (K : Frag) (S T : Sk) : L2.It where
  go := fun i H => ∃ (xs ys : List V), S.at K H xs ∧ T.at K H ys ∧ i < xs.length ∧ i < ys.length
  yld := fun i H v H' => ∃ p x y, v = .ref p ∧ H p = none ∧ H' = upd H p (.tup [x, y]) ∧ (∀ xs, S.at K H xs → xs[i]? = some x) ∧ ∀ ys, T.at K H ys → ys[i]? = some y
  stop := fun i H => ∃ xs ys : List V, S.at K H xs ∧ T.at K H ys ∧ i ≤ xs.length ∧ i ≤ ys.length ∧ (i = xs.length ∨ i = ys.length)
structure Far (z ti to i1 i2 : Addr) (S T : Sk) : Prop where
  nd : [z, ti, to, i1, i2].Nodup
  a1 : ∀ a ∈ S.adr, a ∉ [z, ti, to, i1, i2]
  a2 : ∀ a ∈ T.adr, a ∉ [z, ti, to, i1, i2]
theorem Far.sep {z ti to i1 i2 : Addr} {S T : Sk} (f : Far z ti to i1 i2 S T) : ZipSep2 z ti to i1 i2 (i1 :: S.adr) (i2 :: T.adr) := by
  have nd := f.nd
  simp only [List.nodup_cons, List.mem_cons, List.not_mem_nil, or_false, not_or, List.nodup_nil, and_true, not_false_eq_true] at nd
  obtain ⟨⟨n1, n2, n3, n4⟩, ⟨n5, n6, n7⟩, ⟨n8, n9⟩, n10⟩ := nd
  have u1 : ∀ c ∈ [z, ti, to, i1, i2], c ∉ S.adr := fun c m m2 => f.a1 c m2 m
  have u2 : ∀ c ∈ [z, ti, to, i1, i2], c ∉ T.adr := fun c m m2 => f.a2 c m2 m
  have w : ∀ {c i : Addr} {l : List Addr}, c ≠ i → c ∉ l → c ∉ i :: l := fun a b m => (List.mem_cons.mp m).elim a b
  exact { TIz := Ne.symm n1, TOz := Ne.symm n2, TITO := n5, TIi1 := n6, mem1 := List.mem_cons_self .., zf1 := w n3 (u1 z (by simp)), Tf1 := w n8 (u1 to (by simp)), TIi2 := n7, mem2 := List.mem_cons_self .., zf2 := w n4 (u2 z (by simp)), Tf2 := w n9 (u2 to (by simp)), sep1_2 := w n10 (u2 i1 (by simp)), sep2_1 := w (Ne.symm n10) (u1 i2 (by simp)) }
theorem turn_zipS {P : Program} {w : World} {K : Frag} {elts : List Expr} {kk : Nat} {tpos : Pos} {z ti to i1 i2 : Addr} {S T : Sk} {k1 k2 : Tok} (f : Far z ti to i1 i2 S T) :
    Turn P w K (.Tuple elts kk tpos) (IZ K S T) [z, ti, to, i1, i2] z (fun i h => IsZip h z ti to .none ∧ IsTupOf2 h ti (.ref i1) (.ref i2) ∧ (∃ x y, IsTupOf2 h to x y) ∧ S.it k1 i1 i h ∧ T.it k2 i2 i h) where
  mem := by simp
  obj := fun i h st c hc => by
    obtain ⟨e1, e2, ⟨x, y, e3⟩, e4, e5⟩ := st
    simp only [List.mem_cons, List.not_mem_nil, or_false] at hc
    rcases hc with rfl | rfl | rfl | rfl | rfl
    · exact ⟨_, e1, fun v q => nomatch q⟩
    · exact ⟨_, e2, fun v q => nomatch q⟩
    · exact ⟨_, e3, fun v q => nomatch q⟩
    · exact Sk.it_get e4
    · exact Sk.it_get e5
  keep := fun i h h' st k => by
    obtain ⟨e1, e2, ⟨x, y, e3⟩, e4, e5⟩ := st
    exact ⟨k z (by simp) _ e1, k ti (by simp) _ e2, ⟨x, y, k to (by simp) _ e3⟩, Sk.it_keep e4 fun o e => k i1 (by simp) o e, Sk.it_keep e5 fun o e => k i2 (by simp) o e⟩
  item := by
    intro X hP hw hK hc i pins s σ H E I hf st hg
    subst hP hw hK
    obtain ⟨e1, e2, ⟨x0, y0, e3⟩, e4, e5⟩ := st
    obtain ⟨xs, ys, q1, q2, l1, l2⟩ := hg
    have sep := f.sep
    have hh : X.A.in1.handled = none := I.ok.hd hc
    obtain ⟨P1, S1, D1, s1, b1, r1⟩ := Sk.draws hh I q1 (fun m => f.a1 i1 m (by simp)) e4
    obtain ⟨P2, S2, D2, s2, b2, r2⟩ := Sk.draws hh I q2 (fun m => f.a2 i2 m (by simp)) e5
    have zl : z < s.heap.objs.size := Heap.lt_size e1
    refine wpAny_pyNext_zipD2_item sep D1 D2 e1 e2 e3 s1 s2 l1 l2 fun u1 u2 h' tk p1 p2 c1 c2 t1 t2 cT hsz hk => ?_
    obtain ⟨x, gx, rx⟩ := r1 i u1 p1
    obtain ⟨y, gy, ry⟩ := r2 i u2 p2
    refine ⟨_, rfl, wpAny_letOwnedTupleGo_zip (s := { s with heap := h', toks := tk }) c1 fun h'' z'' sb => ?_⟩
    have far : ∀ c, c ≠ z → h''.get? c = h'.get? c := fun c n => sb.2 c n
    have made : h''.get? s.heap.objs.size = some { cls := .type "tuple", data := .seq #[u1, u2] } := (far _ (Nat.ne_of_gt zl)).trans cT
    have new : ObjOk X.prog X.w (upd H s.heap.objs.size (.tup [x, y])) h'' s.heap.objs.size (.tup [x, y]) := ⟨by show 2 ≤ sizeLine; decide, [u1, u2], .cons rx (.cons ry .nil), ⟨_, made, rfl, _, rfl⟩⟩
    have I1 : Inv X pins σ (upd H s.heap.objs.size (.tup [x, y])) { s with heap := h'', toks := tk } := I.turnedNew (t' := tk) (ch := [z, ti, to, i1, i2]) (fun c o nc q => (far c fun e => nc (by simp [e])).trans (hk c o (fun e => nc (by simp [e])) (fun e => nc (by simp [e])) (fun e => nc (by simp [e])) (fun e => nc (by simp [e])) q)) hf (Nat.le_refl _) new
    refine ⟨.ref s.heap.objs.size, _, I1, rfl, ⟨_, x, y, rfl, I.hok.fresh (Nat.le_refl _), rfl, fun l hl => by rw [Sk.same I q1 hl]; exact gx, fun l hl => by rw [Sk.same I q2 hl]; exact gy⟩, ⟨z'', ?_, ⟨u1, u2, (far _ sep.TOz).trans c2⟩, Sk.it_keep (b1 _ _ t1) fun o e => (far _ (Ne.symm sep.zi1)).trans e, Sk.it_keep (b2 _ _ t2) fun o e => (far _ (Ne.symm sep.zi2)).trans e⟩, fun c hcm => ?_⟩
    · exact (far _ sep.TIz).trans (hk _ _ sep.TIz sep.TITO sep.TIi1 sep.TIi2 e2)
    · have small : c < s.heap.objs.size := by
        simp only [List.mem_cons, List.not_mem_nil, or_false] at hcm
        rcases hcm with rfl | rfl | rfl | rfl | rfl
        · exact zl
        · exact Heap.lt_size e2
        · exact Heap.lt_size e3
        · obtain ⟨o, e, _⟩ := Sk.it_get e4; exact Heap.lt_size e
        · obtain ⟨o, e, _⟩ := Sk.it_get e5; exact Heap.lt_size e
      rw [upd_ne (Nat.ne_of_lt small)]
      exact (hf c hcm).1
  done := by
    intro X hP hw hK hc i pins s σ H E I hf st hg
    subst hP hw hK
    obtain ⟨e1, e2, ⟨x0, y0, e3⟩, e4, e5⟩ := st
    obtain ⟨xs, ys, q1, q2, l1, l2, l3⟩ := hg
    have hh : X.A.in1.handled = none := I.ok.hd hc
    obtain ⟨P1, S1, D1, s1, b1, r1⟩ := Sk.draws hh I q1 (fun m => f.a1 i1 m (by simp)) e4
    obtain ⟨P2, S2, D2, s2, b2, r2⟩ := Sk.draws hh I q2 (fun m => f.a2 i2 m (by simp)) e5
    exact wpAny_pyNext_zipD2_end f.sep D1 D2 e1 e2 e3 s1 s2 l1 l2 l3 fun h' tk hk => ⟨rfl, I.turnedL (t' := tk) (ch := [z, ti, to, i1, i2]) (fun c o nc q => hk c o (fun e => nc (by simp [e])) (fun e => nc (by simp [e])) (fun e => nc (by simp [e])) (fun e => nc (by simp [e])) q) hf⟩
  self := fun A i s Q E st h => wpAny_pyIter_zip st.1 h
def iZipS (K : Frag) (ta : TA) : TI := fun σ H R => ta σ H fun vs H1 => ∃ S T xs ys, vs = [Sk.v S, Sk.v T] ∧ S.at K H1 xs ∧ T.at K H1 ys ∧ R (IZ K S T) H1
theorem Sk.of_rel {S : Sk} {u : Value} (r : RelV S.v u) : ∃ tk, u = S.val tk := by
  cases S with
  | l a => cases r; exact ⟨0, rfl⟩
  | t a => cases r; exact ⟨0, rfl⟩
  | s x => obtain ⟨t, e⟩ := r; exact ⟨t, e⟩
theorem five : ∀ n : Nat, [n + 4, n + 2, n + 3, n, n + 1].Nodup := by
  intro n
  simp only [List.nodup_cons, List.mem_cons, List.not_mem_nil, or_false, not_or, List.nodup_nil, and_true, not_false_eq_true]
  omega
theorem pi_zipS {X : Cx} {e e2 : Expr} {ta : TA} {p pos tpos : Pos} {elts : List Expr} {kk : Nat} (hg : Gl X "zip") (hm : X.mg "zip" = none) (ha : PA X [e, e2] ta)
    (hs : starEach [e, e2] X.env = (false, eval e X.env) :: starEach [e2] X.env) (hpl : (backTo pos (starEach [e2] X.env)).any (·.1) = false) :
    PI X (.Tuple elts kk tpos) (.Call (.Name "zip" p) [e, e2] [] pos) (iZipS X.K ta) := by
  refine ⟨fun pins s σ H R I h => PyProof.Rows.Call_ (ld_blt I hg hm PyProof.Rows.boot_zip (PyProof.Rows.callWith_type1 (thn (ha.run pos pins s σ H _ I h) ?_) hs hpl))⟩
  rintro us s1 ⟨vs, H1, I1, r1, S, T, xs, ys, rfl, q1, q2, q⟩
  match us, r1 with
  | [u1, u2], .cons r (.cons r' .nil) =>
    obtain ⟨k1, rfl⟩ := Sk.of_rel r
    obtain ⟨k2, rfl⟩ := Sk.of_rel r'
    obtain ⟨B1, g1, o1⟩ := Sk.begins (tk := k1) I1 q1
    obtain ⟨B2, g2, o2⟩ := Sk.begins (tk := k2) I1 q2
    refine zip_begins2 g1 g2 o1 o2 fun h' hz hti hto e1 e2 hsz hk => wpAny_pyIter_zip hz ?_
    have I2 : Inv X pins σ H1 { s1 with heap := h' } := I1.kept (t' := s1.toks) hk
    have big : ∀ c ∈ [s1.heap.objs.size + 4, s1.heap.objs.size + 2, s1.heap.objs.size + 3, s1.heap.objs.size, s1.heap.objs.size + 1], s1.heap.objs.size ≤ c := by
      intro c m
      simp only [List.mem_cons, List.not_mem_nil, or_false] at m
      rcases m with rfl | rfl | rfl | rfl | rfl <;> omega
    have f : Far (s1.heap.objs.size + 4) (s1.heap.objs.size + 2) (s1.heap.objs.size + 3) s1.heap.objs.size (s1.heap.objs.size + 1) S T := by
      refine ⟨?_, fun a m m2 => absurd (Sk.lt I1 q1 a m) (Nat.not_lt.mpr (big a m2)), fun a m m2 => absurd (Sk.lt I1 q2 a m) (Nat.not_lt.mpr (big a m2))⟩
      exact five s1.heap.objs.size
    exact ⟨_, _, _, _, H1, rfl, I2, turn_zipS (k1 := k1) (k2 := k2) f, ⟨hz, hti, ⟨_, _, hto⟩, Sk.it_obj e1, Sk.it_obj e2⟩, fun c m => I1.fpOk (big c m) (I1.hok.fresh (big c m)), q⟩
end G

/-! H3: enumerate over lists, tuples, texts; what is walked by zip, enumerate, a range with a step. -/
namespace PySem
theorem gEnumNew {v : Value} {o : Obj} {B : Heap → Prop} (b : Begins v o B) :
    Meets (Builtin.«enumerate.__new__» ⟨[.type "enumerate", v], []⟩) (fun _ R s => B s.heap ∧
      R (.ok (.ret (.ref (s.heap.push o).objs.size))) { s with heap := (s.heap.push o).push { cls := .type "enumerate", data := .fields #[.none, .bool false, .ref s.heap.objs.size, rawInt 0, .none, .none] } }) :=
  .of_wp fun prog w A R s h => by
    obtain ⟨hp, g, d, tk, os⟩ := s
    obtain ⟨hb, h⟩ := h
    have sube := sub_enumerate
    have go : ∀ {A' : Around} {E : Value → Shared → Prop} {Q : Value → Shared → Prop}, Q (.ref hp.objs.size) ⟨hp.push o, g, d, tk, os⟩ → wpAny (model prog w) A' (pyIter v) Q E ⟨hp, g, d, tk, os⟩ := fun q => b.iter prog w _ _ ⟨hp, g, d, tk, os⟩ _ hb q
    wp_walk using go
    refine wpAny_stack_any fun st => wpAny_pure ?_
    split
    · rename_i c _ _ _ _ _
      cases (c == Value.type "enumerate") <;> (wp_walk using go; exact ⟨_, rfl, h⟩)
    · wp_walk using go
      exact ⟨_, rfl, h⟩
end PySem
namespace G
open PySem PySem.Spec L2
theorem enum_made {prog : Program} {w : World} {A : Around} {E : Value → Shared → Prop} {s : Shared} {v : Value} {o : Obj} {B : Heap → Prop} {Q : Value → Shared → Prop} (b : Begins v o B) (hb : B s.heap)
    (k : ∀ h', IsEnum h' (s.heap.objs.size + 1) s.heap.objs.size 0 .none → h'.get? s.heap.objs.size = some o → (∀ c y, s.heap.get? c = some y → h'.get? c = some y) → Q (.ref (s.heap.objs.size + 1)) { s with heap := h' }) :
    wpAny (model prog w) A (call (.type "enumerate") [v]) Q E s := by
  refine callType_new F.called_enumerate (by decide) (F.typeCall_enumerate_1 _) (F.newCall_enumerate_1 _) (fun obj => F.args_object_init_2 obj _) F.entry_enumerate_new (gEnumNew b) ⟨hb, ?_⟩
  have e1 : (s.heap.push o).objs.size = s.heap.objs.size + 1 := Heap.size_push ..
  show _ ∧ _
  rw [e1]
  have e2 := Heap.get?_push_size (s.heap.push o) (o := { cls := .type "enumerate", data := .fields #[.none, .bool false, .ref s.heap.objs.size, rawInt 0, .none, .none] }) rfl
  rw [e1] at e2
  exact ⟨⟨_, e2, rfl⟩, k _ e2 (Heap.get?_push_of_some _ (Heap.get?_push_size _ b.free)) fun c y x => Heap.get?_push_of_some _ (Heap.get?_push_of_some _ x)⟩
def IE (K : Frag) (S : Sk) : L2.It where
  go := fun i H => ∃ xs : List V, S.at K H xs ∧ i < xs.length
  yld := fun i H v H' => ∃ p x, v = .ref p ∧ H p = none ∧ H' = upd H p (.tup [.int (i : Nat), x]) ∧ ∀ xs, S.at K H xs → xs[i]? = some x
  stop := fun i H => ∃ xs : List V, S.at K H xs ∧ i = xs.length
theorem turn_enumS {P : Program} {w : World} {K : Frag} {elts : List Expr} {kk : Nat} {tpos : Pos} {z p : Addr} {S : Sk} {k1 : Tok} (nz : z ≠ p) (a1 : z ∉ S.adr) (a2 : p ∉ S.adr) :
    Turn P w K (.Tuple elts kk tpos) (IE K S) [z, p] z (fun i h => (∃ old, IsEnum h z p ((i : Nat) : Int) old) ∧ S.it k1 p i h) where
  mem := by simp
  obj := fun i h st c hc => by
    obtain ⟨⟨old, e1⟩, e2⟩ := st
    simp only [List.mem_cons, List.not_mem_nil, or_false] at hc
    rcases hc with rfl | rfl
    · exact ⟨_, e1, fun v q => nomatch q⟩
    · exact Sk.it_get e2
  keep := fun i h h' st k => by
    obtain ⟨⟨old, e1⟩, e2⟩ := st
    exact ⟨⟨old, k z (by simp) _ e1⟩, Sk.it_keep e2 fun o e => k p (by simp) o e⟩
  item := by
    intro X hP hw hK hc i pins s σ H E I hf st hg
    subst hP hw hK
    obtain ⟨⟨old, e1⟩, e2⟩ := st
    obtain ⟨xs, q1, l1⟩ := hg
    have hh : X.A.in1.handled = none := I.ok.hd hc
    obtain ⟨P1, S1, D1, s1, b1, r1⟩ := Sk.draws hh I q1 a2 e2
    have zl : z < s.heap.objs.size := Heap.lt_size e1
    have pl : p < s.heap.objs.size := by obtain ⟨o, e, _⟩ := Sk.it_get e2; exact Heap.lt_size e
    refine wpAny_pyNext_enum_itemD D1 e1 s1 l1 nz (fun m => (List.mem_cons.mp m).elim nz a1) fun u h' tk p1 c1 t1 cT hsz hk => ?_
    obtain ⟨x, gx, rx⟩ := r1 i u p1
    refine ⟨_, rfl, wpAny_letOwnedTupleGo_enum (s := { s with heap := h', toks := tk + 1 }) c1 fun h'' z'' sb => ?_⟩
    have far : ∀ c, c ≠ z → h''.get? c = h'.get? c := fun c n => sb.2 c n
    have made : h''.get? s.heap.objs.size = some { cls := .type "tuple", data := .seq #[.int i tk, u] } := (far _ (Nat.ne_of_gt zl)).trans cT
    have new : ObjOk X.prog X.w (upd H s.heap.objs.size (.tup [.int (i : Nat), x])) h'' s.heap.objs.size (.tup [.int (i : Nat), x]) := ⟨by show 2 ≤ sizeLine; decide, [.int i tk, u], .cons ⟨_, rfl⟩ (.cons rx .nil), ⟨_, made, rfl, _, rfl⟩⟩
    have I1 : Inv X pins σ (upd H s.heap.objs.size (.tup [.int (i : Nat), x])) { s with heap := h'', toks := tk + 1 } := I.turnedNew (t' := tk + 1) (ch := [z, p]) (fun c o nc q => (far c fun e => nc (by simp [e])).trans (hk c o (fun e => nc (by simp [e])) (fun e => nc (by simp [e])) q)) hf (Nat.le_refl _) new
    refine ⟨.ref s.heap.objs.size, _, I1, rfl, ⟨_, x, rfl, I.hok.fresh (Nat.le_refl _), rfl, fun l hl => by rw [Sk.same I q1 hl]; exact gx⟩, ⟨⟨u, ?_⟩, Sk.it_keep (b1 _ _ t1) fun o e => (far _ (Ne.symm nz)).trans e⟩, fun c hcm => ?_⟩
    · have ec : ((i + 1 : Nat) : Int) = (i : Int) + 1 := by omega
      rw [ec]
      exact z''
    · have small : c < s.heap.objs.size := by
        simp only [List.mem_cons, List.not_mem_nil, or_false] at hcm
        rcases hcm with rfl | rfl
        · exact zl
        · exact pl
      rw [upd_ne (Nat.ne_of_lt small)]
      exact (hf c hcm).1
  done := by
    intro X hP hw hK hc i pins s σ H E I hf st hg
    subst hP hw hK
    obtain ⟨⟨old, e1⟩, e2⟩ := st
    obtain ⟨xs, q1, rfl⟩ := hg
    have hh : X.A.in1.handled = none := I.ok.hd hc
    obtain ⟨P1, S1, D1, s1, b1, r1⟩ := Sk.draws hh I q1 a2 e2
    exact wpAny_pyNext_enum_endD D1 e1 s1 fun h' hx => ⟨rfl, I.turnedL (t' := s.toks) (ch := [z, p]) (fun c o nc q => hx c o (fun e => nc (by simp [e])) q) hf⟩
  self := fun A i s Q E st h => by
    obtain ⟨⟨old, e1⟩, e2⟩ := st
    exact wpAny_pyIter_enum e1 h
def iEnumS (K : Frag) (ta : TA) : TI := fun σ H R => ta σ H fun vs H1 => ∃ S xs, vs = [Sk.v S] ∧ S.at K H1 xs ∧ R (IE K S) H1
theorem pi_enumS {X : Cx} {e : Expr} {ta : TA} {p pos tpos : Pos} {elts : List Expr} {kk : Nat} (hg : Gl X "enumerate") (hm : X.mg "enumerate" = none) (ha : PA X [e] ta)
    (hs : starEach [e] X.env = [(false, eval e X.env)]) :
    PI X (.Tuple elts kk tpos) (.Call (.Name "enumerate" p) [e] [] pos) (iEnumS X.K ta) := by
  refine ⟨fun pins s σ H R I h => PyProof.Rows.Call_ (ld_blt I hg hm PyProof.Rows.boot_enumerate (PyProof.Rows.callWith_type1 (thn (ha.run pos pins s σ H _ I h) ?_) hs rfl))⟩
  rintro us s1 ⟨vs, H1, I1, r1, S, xs, rfl, q1, q⟩
  match us, r1 with
  | [u1], .cons r .nil =>
    obtain ⟨k1, rfl⟩ := Sk.of_rel r
    obtain ⟨B1, g1, o1⟩ := Sk.begins (tk := k1) I1 q1
    refine enum_made g1 o1 fun h' hz e1 hk => wpAny_pyIter_enum hz ?_
    have I2 : Inv X pins σ H1 { s1 with heap := h' } := I1.kept (t' := s1.toks) hk
    have big : ∀ c ∈ [s1.heap.objs.size + 1, s1.heap.objs.size], s1.heap.objs.size ≤ c := by
      intro c m
      simp only [List.mem_cons, List.not_mem_nil, or_false] at m
      rcases m with rfl | rfl <;> omega
    have no : ∀ c ∈ [s1.heap.objs.size + 1, s1.heap.objs.size], c ∉ S.adr := fun c m m2 => absurd (Sk.lt I1 q1 c m2) (Nat.not_lt.mpr (big c m))
    exact ⟨_, _, _, _, H1, rfl, I2, turn_enumS (k1 := k1) (Nat.succ_ne_self _) (no _ (by simp)) (no _ (by simp)), ⟨⟨_, hz⟩, Sk.it_obj e1⟩, fun c m => I1.fpOk (big c m) (I1.hok.fresh (big c m)), q⟩
/-! ### readings -/
section
variable {X : Cx} {C : Nat → List D → Hp → R Rv} {K : Frag} {σ : St} {ρ : Env} {β β1 : List Addr} {H H1 : AHp} {h h1 h2 h' : Hp} {r r1 r2 : Rv}
/-- what a value is drawn from, as long as the watched lists stay -/
def SkOk (K : Frag) (β : List Addr) (H : AHp) (S : Sk) (ds : List D) (ws : List (Nat × List D)) : Prop := ∀ (β' : List Addr) (H' : AHp) (h' : Hp), HpOk K β' H' h' → Ext β H β' H' → same h' ws = true → ∃ vs, S.at K H' vs ∧ Rels K β' H' ds vs
theorem walk_sk {ds : List D} {v : V} {F : List Addr} (ok : HpOk K β H h) (R1 : RelR K β H r v F) (nf : ∀ a ∈ F, a ∉ β) (e : itemsOf h r = some ds) :
    ∃ S : Sk, v = S.v ∧ (∃ vs, S.at K H vs) ∧ SkOk K β H S ds (watch h r) := by
  cases r with
  | new o =>
    obtain ⟨a, rfl, rfl, ob⟩ := R1
    cases o with
    | lst xs =>
      cases e
      obtain ⟨vs, s, q⟩ := ob
      exact ⟨.l a, rfl, ⟨vs, SqL.of s⟩, fun β' H' h' ok' x _ => ⟨vs, SqL.of (x.fr a _ s (nf a (by simp))), q.mono (Kp.of ok x) _ _⟩⟩
    | dk _ => cases e
    | dt _ => cases e
  | val d =>
    cases d with
    | tup xs =>
      cases e
      obtain ⟨a, vs, rfl, s, q⟩ := Rel.tup R1
      exact ⟨.t a, rfl, ⟨vs, SqT.of s⟩, fun β' H' h' ok' x _ => ⟨vs, SqT.of ((Kp.of ok x).tup a vs s), q.mono (Kp.of ok x) _ _⟩⟩
    | ktup xs =>
      cases e
      have R1' := R1.2
      simp only [Rel] at R1'
      obtain ⟨a, vs, rfl, s, q⟩ := R1'
      exact ⟨.t a, rfl, ⟨vs, kt_sq s⟩, fun β' H' h' ok' x _ => ⟨vs, kt_sq s, q.mono (Kp.of ok x) _ _⟩⟩
    | str s =>
      cases e
      have ev := Rel.str R1
      subst ev
      refine ⟨.s (tx s), rfl, ⟨_, rfl⟩, fun β' H' h' ok' x _ => ⟨_, rfl, ?_⟩⟩
      have all : ∀ l : List Nat, Rels K β' H' (chars l) (l.map fun c => V.str ⟨#[c]⟩) := fun l => by
        induction l with
        | nil => exact Rels.nil
        | cons c l ih => exact Rels.cons (mkStr [c]) ih
      have := all s
      simpa [signs, tx] using this
    | rol xs =>
      cases e
      obtain ⟨a, vs, rfl, s, q⟩ := Rel.rol R1
      exact ⟨.l a, rfl, ⟨vs, s.sq⟩, fun β' H' h' ok' x _ => ⟨vs, ((Kp.of ok x).rol a vs s).sq, q.mono (Kp.of ok x) _ _⟩⟩
    | ref n =>
      have R1' := R1.2
      simp only [Rel] at R1'
      obtain ⟨a, rfl, ea⟩ := R1'
      cases q : h[n]? with
      | none => simp only [itemsOf, q] at e; cases e
      | some o =>
        simp only [itemsOf, q] at e
        cases o with
        | lst xs =>
          cases e
          obtain ⟨a', e1, vs, s, rr⟩ := ok.obj n _ q
          rw [ea] at e1
          cases e1
          refine ⟨.l a, rfl, ⟨vs, SqL.of s⟩, fun β' H' h' ok' x sm => ?_⟩
          have ea' := (Kp.of ok x).ix n a ea
          simp only [watch, q, Option.bind, lstIn, same, Bool.and_true] at sm
          split at sm
          · rename_i ys eys
            have eq := beqs_eq _ _ sm
            subst eq
            cases q2 : h'[n]? with
            | none => rw [q2] at eys; cases eys
            | some o2 =>
              rw [q2] at eys
              cases o2 with
              | lst zs =>
                cases eys
                obtain ⟨a2, e2, vs2, s2, rr2⟩ := ok'.obj n _ q2
                rw [ea'] at e2
                cases e2
                exact ⟨vs2, SqL.of s2, rr2⟩
              | dk _ => cases eys
              | dt _ => cases eys
          · cases sm
        | dk _ => cases e
        | dt _ => cases e
    | _ => cases e
theorem enumL_get : ∀ (ds : List D) (k : Int) (i : Nat) (d : D), ds[i]? = some d → (enumL k ds)[i]? = some (.tup [.int (k + i), d])
  | [], k, i, d, e => by simp at e
  | x :: ds, k, 0, d, e => by simp at e; subst e; simp [enumL]
  | x :: ds, k, i + 1, d, e => by
    simp only [enumL, List.getElem?_cons_succ]
    rw [enumL_get ds (k + 1) i d (by simpa using e)]
    have : k + 1 + (i : Int) = k + ((i + 1 : Nat) : Int) := by omega
    rw [this]
theorem enumL_length : ∀ (ds : List D) (k : Int), (enumL k ds).length = ds.length
  | [], k => rfl
  | x :: ds, k => by simp [enumL, enumL_length ds]
theorem zipL_length : ∀ (xs ys : List D), (zipL xs ys).length = min xs.length ys.length
  | [], ys => by simp [zipL]
  | x :: xs, [] => by simp [zipL]
  | x :: xs, y :: ys => by simp [zipL, zipL_length xs ys]
theorem zipL_get : ∀ (xs ys : List D) (i : Nat) (x y : D), xs[i]? = some x → ys[i]? = some y → (zipL xs ys)[i]? = some (.tup [x, y])
  | [], ys, i, x, y, e, _ => by simp at e
  | x :: xs, [], i, x', y, _, e => by simp at e
  | x :: xs, y :: ys, 0, x', y', e, e' => by simp at e e'; subst e e'; simp [zipL]
  | x :: xs, y :: ys, i + 1, x', y', e, e' => by
    simp only [zipL, List.getElem?_cons_succ]
    exact zipL_get xs ys i x' y' (by simpa using e) (by simpa using e')
theorem good_enum {ds : List D} {ws : List (Nat × List D)} {S : Sk} (k : SkOk K β H S ds ws) : GoodIt K β H (IE K S) (enumL 0 ds) ws where
  go := fun i β' H' h' ok x s hi => by
    obtain ⟨vs, a, q⟩ := k β' H' h' ok x s
    exact ⟨vs, a, by rw [← q.length]; rw [enumL_length] at hi; exact hi⟩
  yld := fun i β' H' h' v H2 ok x s hi y => by
    obtain ⟨vs, a, q⟩ := k β' H' h' ok x s
    rw [enumL_length] at hi
    obtain ⟨p, u, rfl, hp, rfl, y⟩ := y
    have hd : ds[i]? = some ds[i] := List.getElem?_eq_getElem hi
    obtain ⟨u', e1, rr⟩ := q.get hd
    have e2 := y vs a
    rw [e1] at e2
    cases e2
    have xn : Ext β' H' β' (upd H' p (.tup [.int (i : Nat), u])) := Ext.new hp
    refine ⟨ok.new hp, xn, _, enumL_get ds 0 i _ hd, mkTup upd_same ?_⟩
    rw [Int.zero_add]
    exact Rels.cons (mkInt _) (Rels.cons (rr.mono (Kp.of ok xn) _ _) Rels.nil)
  stop := fun β' H' h' ok x s => by
    obtain ⟨vs, a, q⟩ := k β' H' h' ok x s
    exact ⟨vs, a, by rw [enumL_length, q.length]⟩
theorem same_app : ∀ (a b : List (Nat × List D)) (h : Hp), same h (a ++ b) = (same h a && same h b)
  | [], b, h => by simp [same]
  | (n, xs) :: a, b, h => by simp only [List.cons_append, same, same_app a b h, Bool.and_assoc]
theorem good_zip {xs ys : List D} {w1 w2 : List (Nat × List D)} {S T : Sk} (k : SkOk K β H S xs w1) (k2 : SkOk K β H T ys w2) : GoodIt K β H (IZ K S T) (zipL xs ys) (w1 ++ w2) where
  go := fun i β' H' h' ok x s hi => by
    rw [same_app, Bool.and_eq_true] at s
    obtain ⟨vs, a, q⟩ := k β' H' h' ok x s.1
    obtain ⟨us, b, q2⟩ := k2 β' H' h' ok x s.2
    rw [zipL_length] at hi
    exact ⟨vs, us, a, b, by rw [← q.length]; omega, by rw [← q2.length]; omega⟩
  yld := fun i β' H' h' v H2 ok x s hi y => by
    rw [same_app, Bool.and_eq_true] at s
    obtain ⟨vs, a, q⟩ := k β' H' h' ok x s.1
    obtain ⟨us, b, q2⟩ := k2 β' H' h' ok x s.2
    rw [zipL_length] at hi
    obtain ⟨p, u, u2, rfl, hp, rfl, y, y2⟩ := y
    have hd : xs[i]? = some (xs[i]'(by omega)) := List.getElem?_eq_getElem (by omega)
    have hd2 : ys[i]? = some (ys[i]'(by omega)) := List.getElem?_eq_getElem (by omega)
    obtain ⟨u', e1, rr⟩ := q.get hd
    obtain ⟨u2', e2, rr2⟩ := q2.get hd2
    have e3 := y vs a
    rw [e1] at e3
    cases e3
    have e4 := y2 us b
    rw [e2] at e4
    cases e4
    have xn : Ext β' H' β' (upd H' p (.tup [u, u2])) := Ext.new hp
    refine ⟨ok.new hp, xn, _, zipL_get xs ys i _ _ hd hd2, mkTup upd_same ?_⟩
    exact Rels.cons (rr.mono (Kp.of ok xn) _ _) (Rels.cons (rr2.mono (Kp.of ok xn) _ _) Rels.nil)
  stop := fun β' H' h' ok x s => by
    rw [same_app, Bool.and_eq_true] at s
    obtain ⟨vs, a, q⟩ := k β' H' h' ok x s.1
    obtain ⟨us, b, q2⟩ := k2 β' H' h' ok x s.2
    have l1 := q.length
    have l2 := q2.length
    exact ⟨vs, us, a, b, by rw [zipL_length]; omega, by rw [zipL_length]; omega, by rw [zipL_length]; omega⟩
theorem i_enu {a : E} {pa : Expr} {pp pos tpos : Pos} {elts : List Expr} {kk : Nat} (hg : Gl X "enumerate") (hm : X.mg "enumerate" = none) (ha : PE X pa (tE C X.K a)) (hs : starEach [pa] X.env = [(false, eval pa X.env)]) : PI X (.Tuple elts kk tpos) (.Call (.Name "enumerate" pp) [pa] [] pos) (tI C X.K (.enu a)) :=
  imI (pi_enumS hg hm (a_cons ha a_nil hs) hs) fun σ H Rr q => by
    obtain ⟨β, ρ, h, p, h', ee, ok, e0, k⟩ := q
    simp only [evi] at e0
    obtain ⟨r1, h1, e1, e2⟩ := bind_ok e0
    obtain ⟨e3, rfl⟩ := opt_ok e2
    obtain ⟨ds, e4, rfl⟩ := map_some e3
    refine ⟨β, ρ, h, [r1], h', ee, ok, by simp only [evs, e1, R.bind], fun vs H1 β1 F ok1 x1 R1 nd f => ?_⟩
    obtain ⟨v, t, F1, F2, rfl, rfl, R1, rfl, rfl⟩ := R1
    obtain ⟨S, rfl, ⟨vs, a1⟩, g⟩ := walk_sk ok1 R1 (fun a m => (f a (by simp [m])).1) e4
    exact ⟨S, vs, rfl, a1, k _ _ β1 ok1 x1 (good_enum g)⟩
/-- a temporary's own objects are not written -/
theorem i_zip {a b : E} {pa pb : Expr} {pp pos tpos : Pos} {elts : List Expr} {kk : Nat} (hg : Gl X "zip") (hm : X.mg "zip" = none) (ha : PE X pa (tE C X.K a)) (hb : PE X pb (tE C X.K b)) (hs : starEach [pa, pb] X.env = (false, eval pa X.env) :: starEach [pb] X.env) (hs2 : starEach [pb] X.env = [(false, eval pb X.env)]) (hpl : (backTo pos (starEach [pb] X.env)).any (·.1) = false) :
    PI X (.Tuple elts kk tpos) (.Call (.Name "zip" pp) [pa, pb] [] pos) (tI C X.K (.zip a b)) :=
  imI (pi_zipS hg hm (a_cons ha (a_cons hb a_nil hs2) hs) hs hpl) fun σ H Rr q => by
    obtain ⟨β, ρ, h, p, h', ee, ok, e0, k⟩ := q
    simp only [evi] at e0
    obtain ⟨r1, h1, e1, e2⟩ := bind_ok e0
    obtain ⟨r2, h2, e3, e2⟩ := bind_ok e2
    refine ⟨β, ρ, h, [r1, r2], h2, ee, ok, by simp only [evs, e1, e3, R.bind], fun vs H1 β1 F ok1 x1 R1 nd f => ?_⟩
    obtain ⟨v, t, F1, F2, rfl, rfl, R1, v2, t2, F3, F4, rfl, rfl, R2, rfl, rfl⟩ := R1
    split at e2
    · rename_i xs ys ex ey
      have eh : h2 = h' := by cases e2; rfl
      have ep : (zipL xs ys, watch h2 r1 ++ watch h2 r2) = p := by cases e2; rfl
      subst eh ep
      obtain ⟨S, rfl, ⟨vs, a1⟩, g⟩ := walk_sk ok1 R1 (fun a m => (f a (by simp [m])).1) ex
      obtain ⟨T, rfl, ⟨us, a2⟩, g2⟩ := walk_sk ok1 R2 (fun a m => (f a (by simp [m])).1) ey
      exact ⟨S, T, vs, us, rfl, a1, a2, k _ _ β1 ok1 x1 (good_zip g g2)⟩
    · cases e2
/-! ### a range with a step -/
theorem good_rangeC {lo st : Int} {n : Nat} : GoodIt K β H (Itc lo st n) (rangeL lo st n) [] where
  go := fun i β' H' h' ok x s hi => by rw [rangeL_length] at hi; exact hi
  yld := fun i β' H' h' v H2 ok x s hi y => by
    rw [rangeL_length] at hi
    obtain ⟨rfl, rfl⟩ := y
    exact ⟨ok, Ext.refl, _, rangeL_get st n lo i hi, mkInt _⟩
  stop := fun β' H' h' ok x s => by rw [rangeL_length]; exact Nat.le_refl _
end
end G

/-! H4: what is read from behind: e[::-1], e[-2::-1]. -/
namespace G
open PySem PySem.Spec L2
open PyProof.Rows hiding St
theorem back_pick {α : Type} (xs : Array α) (m n : Nat) (hm : m ≤ xs.size) (f : Nat → Nat) (hf : ∀ k, k < m → f k = m - 1 - k) (hn : n = m) : (List.range n).filterMap (fun k => xs[f k]?) = (xs.toList.take m).reverse := by
  subst hn
  have e : (List.range n).filterMap (fun k => xs[f k]?) = (List.range n).filterMap (fun k => xs[n - 1 - k]?) := by
    have all : ∀ l : List Nat, (∀ k ∈ l, k < n) → l.filterMap (fun k => xs[f k]?) = l.filterMap (fun k => xs[n - 1 - k]?) := fun l => by
      induction l with
      | nil => intro _; rfl
      | cons k l ih =>
        intro h
        rw [List.filterMap_cons, List.filterMap_cons, hf k (h k (by simp)), ih fun j hj => h j (by simp [hj])]
    exact all _ fun k hk => List.mem_range.mp hk
  have e2 : ∀ m : Nat, m ≤ xs.size → (List.range m).filterMap (xs[·]?) = xs.toList.take m := fun m hm => by
    induction m with
    | zero => simp
    | succ m ih =>
      rw [List.range_succ, List.filterMap_append, ih (by omega)]
      have hx : xs[m]? = some xs[m] := by simp [show m < xs.size by omega]
      have hx2 : xs.toList[m]? = some xs[m] := by simpa using hx
      rw [List.take_add_one, hx2]
      simp [hx]
  rw [e, ← e2 n hm, ← List.filterMap_reverse, ← PySem.W.krv_range, List.filterMap_map]
  rfl
theorem back_bounds (n : Nat) : sliceBounds (some (-2)) none (some (-1)) n = (max (-1) ((n : Int) - 2), -1, -1) := by
  have : ¬ ((-1 : Int) > 0) := by decide
  simp only [sliceBounds, Option.getD_some, this, if_false]
  have h2 : (-2 : Int) < 0 := by decide
  simp only [h2, if_true]
  congr 1
  omega
theorem back_range (n m : Nat) (a : Int) (h : a = (m : Int) - 1) : sliceRange a (-1) (-1) = (List.range m).map fun k => m - 1 - k := by
  subst h
  exact PySem.W.krv_sliceRange m
theorem pick_back2 (its : List Value) : slicePick its.toArray (some (-2)) none (some (-1)) = its.dropLast.reverse.toArray := by
  unfold slicePick
  rw [back_bounds]
  simp only
  rw [back_range its.toArray.size (its.length - 1) _ (by simp only [List.size_toArray]; omega), List.filterMap_map]
  congr 1
  have := back_pick its.toArray (its.length - 1) (its.length - 1) (by simp) (fun k => its.length - 1 - 1 - k) (fun k hk => rfl) rfl
  rw [List.dropLast_eq_take]
  exact this
/-- a tuple from behind -/
theorem getItem_tup_back {prog : Program} {w : World} {A : Around} {E : Value → Shared → Prop} {s : Shared} {t sl : Addr} {its : List Value} {vl vu vs : Value} {Q : Value → Shared → Prop} (ht : IsTup s.heap t its.toArray) (hs : s.heap.IsSliceOf sl vl vu vs) (pl : IsPart vl none) (pu : IsPart vu none) (ps : IsPart vs (some (-1)))
    (h : Q (.ref s.heap.objs.size) { s with heap := s.heap.push { cls := .type "tuple", data := .seq its.reverse.toArray } }) (hz : its.length ≤ sizeLine) : wpAny (model prog w) A (getItem (.ref t) (.ref sl)) Q E s := by
  obtain ⟨os, g1, g2, g3⟩ := id hs
  have isS : s.TypeIs (.ref sl) "slice" := ⟨os, g1, g2⟩
  have sz : sizeOk (.seq its.reverse.toArray) := by
    show its.reverse.toArray.size ≤ sizeLine
    simpa using hz
  unfold getItem
  try with_reducible refine wpAny_holding ?_
  first | refine wpAny_bind (wpAny_pure ?_) | skip
  refine wpAny_bind (wpAny_sequenceKey ht.typeIs (by decide) (wpAny_bind (wpAny_callSpecial?_slot (name := Str.ofString "__getitem__") ht.typeIs PyProof.Rows.slot_tuple_getitem (wpAny_call_entry PyProof.Rows.slot_tuple_getitem ht.typeIs entry_tuple_getitem ?_ (args_tuple_getitem _ _)))))
  show wpAny _ _ (Builtin.Tuple.tupleItemsOf (.ref t) >>= _) _ _ s
  refine wpAny_bind (tupleItemsOf_ ht (wpAny_bind (wpAny_typeOf isS ?_)))
  rw [if_pos (by decide)]
  refine wpAny_bind ?_
  unfold Builtin.Slice.sliceApplied Builtin.Slice.sliceFields
  refine wpAny_bind (wpAny_bind (wpAny_field g1 g3 (x := vl) rfl (wpAny_bind (wpAny_field g1 g3 (x := vu) rfl (wpAny_bind (wpAny_field g1 g3 (x := vs) rfl (wpAny_pure ?_)))))))
  refine wpAny_bind (HT.slicePart_ ps ?_)
  show wpAny _ _ (if ((-1 : Int) == 0) = true then _ else _) _ _ s
  rw [if_neg (by decide)]
  refine wpAny_bind (HT.slicePart_ pl (wpAny_bind (HT.slicePart_ pu (wpAny_bind (wpAny_pure ?_)))))
  have e1 : Builtin.Slice.sliceAdjust none none (-1) (its.toArray.size : Int) = ((its.toArray.size : Int) - 1, -1) := by
    simp [Builtin.Slice.sliceAdjust]
  have e2 : Builtin.Slice.slicePlaces ((its.toArray.size : Int) - 1) (-1) (-1) = its.toArray.size := by
    unfold Builtin.Slice.slicePlaces
    rw [if_neg (by decide)]
    split
    · rw [show (- -1 : Int) = 1 by decide, Int.ediv_one]; omega
    · omega
  show wpAny _ _ (match Builtin.Slice.sliceAdjust none none (-1) (its.toArray.size : Int) with | (lo, hi) => pure (lo, (-1 : Int), Builtin.Slice.slicePlaces lo hi (-1))) _ _ s
  rw [e1]
  show wpAny _ _ (pure (((its.toArray.size : Int) - 1), (-1 : Int), Builtin.Slice.slicePlaces ((its.toArray.size : Int) - 1) (-1) (-1))) _ _ s
  rw [e2]
  refine wpAny_pure ?_
  have no : ¬ (((its.toArray.size : Int) - 1 == 0 && (-1 : Int) == 1 && its.toArray.size == its.toArray.size) = true) := by simp
  show wpAny _ _ (if ((its.toArray.size : Int) - 1 == 0 && (-1 : Int) == 1 && its.toArray.size == its.toArray.size) = true then _ else _) _ _ s
  rw [if_neg no]
  have e3 : ((List.range its.toArray.size).filterMap fun (k : Nat) => its.toArray[((its.toArray.size : Int) - 1 + (k : Int) * (-1)).toNat]?) = its.reverse := by
    rw [back_pick its.toArray its.length its.toArray.size (by simp) _ (fun k hk => ?_) (by simp)]
    · simp
    · simp only [List.size_toArray]; omega
  rw [e3]
  first
    | exact wpAny_bind (m := Builtin.Tuple.tupleExact _) (wpAny_newObj_type (wpAny_pure ⟨_, rfl, wpAny_pure h⟩) sz)
    | exact wpAny_bind (wpAny_bind (m := Builtin.Tuple.tupleExact _) (wpAny_newObj_type (wpAny_pure (wpAny_pure ⟨_, rfl, wpAny_pure h⟩)) sz))
    | exact wpAny_bind (wpAny_bind (m := Builtin.Tuple.tupleExact _) (wpAny_newObj_type (wpAny_pure ⟨_, rfl, wpAny_pure h⟩) sz))
section
variable {X : Cx} {C : Nat → List D → Hp → R Rv}
def tBk (K : Frag) (te : TE) : TE := fun σ H Q => te σ H fun x H1 =>
  (∃ a xs, x = .ref a ∧ SqL K H1 a xs ∧ ∀ p, H1 p = none → Q (.ref p) (upd H1 p (.lst xs.reverse))) ∨ (∃ a xs, x = .ref a ∧ SqT K H1 a xs ∧ ∀ p, H1 p = none → Q (.ref p) (upd H1 p (.tup xs.reverse))) ∨
  ∃ s : List Nat, x = .str (tx s) ∧ s.length ≤ sizeLine ∧ Q (.str (tx s.reverse)) H1
theorem pe_bk {e : Expr} {te : TE} {k : Nat} {p1 p2 p3 pos : Pos} (he : PE X e te) : PE X (.Subscript e (.Slice none none (some (.UnaryOp .USub (.Constant (.int 1) k p1) p2)) p3) pos) (tBk X.K te) := by
  refine ⟨fun pins s σ H Q I h => PyProof.Rows.Subscript_ (thn (he.run pins s σ H _ I h) ?_)⟩
  rintro v s1 ⟨x, H1, I1, r1, q1⟩
  have minus : PO X (some (.UnaryOp .USub (.Constant (.int 1) k p1) p2)) (tPart (tUn (rU fun i => .int (-i)) (tC (.int 1)))) := po_some (pe_un un_neg pe_int)
  refine wpAny_Slice (thn (po_none.run pins s1 σ H1 (fun o H2 => o = none ∧ H2 = H1) I1 ⟨rfl, rfl⟩) ?_)
  rintro vl s2 ⟨l, H2, I2, pl, rfl, rfl⟩
  refine thn (po_none.run pins s2 σ H2 (fun o H3 => o = none ∧ H3 = H2) I2 ⟨rfl, rfl⟩) ?_
  rintro vu s3 ⟨u, H3, I3, pu, rfl, rfl⟩
  refine thn (minus.run pins s3 σ H3 (fun o H4 => o = some (-1) ∧ H4 = H3) I3 ⟨1, rfl, -1, rfl, rfl, rfl⟩) ?_
  rintro vs s4 ⟨o, H4, I4, ps, rfl, rfl⟩
  have I5 : Inv X pins σ H4 { s4 with heap := s4.heap.push { cls := .type "slice", data := .fields #[vl, vu, vs] } } := I4.kept (t' := s4.toks) fun b ob q => Heap.get?_push_of_some _ q
  show wpAny (model X.prog X.w) X.A (subscriptTail e (.Slice none none (some (.UnaryOp .USub (.Constant (.int 1) k p1) p2)) p3) v (.ref s4.heap.objs.size)) (EP X pins σ Q) X.xe { s4 with heap := s4.heap.push { cls := .type "slice", data := .fields #[vl, vu, vs] } }
  rcases q1 with ⟨a, xs, rfl, hx, q⟩ | ⟨a, xs, rfl, hx, q⟩ | ⟨z, rfl, hz, q⟩
  · cases r1
    obtain ⟨its, r, ht, hz⟩ := I5.list hx
    have hl := r.length
    refine tail_any (ops := [.ref a, .ref s4.heap.objs.size]) ht.isList.typeIs (PySem.slot_list_getitem.lookup) ?_ (by with_unfolding_all rfl)
    refine wpAny_getItem_list_slice ht.isList (Heap.IsSliceOf.new _ vl vu vs) pl pu ps (by decide) ?_ (by rw [List.size_toArray]; omega)
    rw [PySem.W.krv_pick]
    exact ⟨.ref _, _, I5.laid (t' := s4.toks) (o := .lst xs.reverse) (fun b ob q => Heap.get?_push_of_some _ q) (Nat.le_refl _) ⟨by rw [List.length_reverse]; exact hz, _, 0, r.reverse, Heap.get?_push_size _ rfl⟩, rfl, q _ (I5.hok.fresh (Nat.le_refl _))⟩
  · cases r1
    obtain ⟨its, r, ht, hz⟩ := I5.tuple hx
    have hl := r.length
    refine tail_any (ops := [.ref a, .ref s4.heap.objs.size]) ht.typeIs (PyProof.Rows.slot_tuple_getitem.lookup) ?_ (by with_unfolding_all rfl)
    refine getItem_tup_back ht (Heap.IsSliceOf.new _ vl vu vs) pl pu ps ?_ (by omega)
    exact ⟨.ref _, _, I5.laid (t' := s4.toks) (o := .tup xs.reverse) (fun b ob q => Heap.get?_push_of_some _ q) (Nat.le_refl _) ⟨by rw [List.length_reverse]; exact hz, _, r.reverse, IsTup.new _ _⟩, rfl, q _ (I5.hok.fresh (Nat.le_refl _))⟩
  · obtain ⟨t, rfl⟩ := r1
    refine tail_any (ops := [.str (tx z) t, .ref s4.heap.objs.size]) (typeIs_str _ _ _) (F.slot_str_getitem.lookup) ?_ (by with_unfolding_all rfl)
    obtain ⟨os, g1, g2, g3⟩ := Heap.IsSliceOf.new s4.heap vl vu vs
    obtain ⟨l, rfl, el⟩ := IsPart.raw pl
    obtain ⟨u, rfl, eu⟩ := IsPart.raw pu
    obtain ⟨c, rfl, ec⟩ := IsPart.raw ps
    refine wpAny_getItem_str_slice (l := l) (u := u) (st := c) ⟨os, g1, g2, g3⟩ (by rw [ec]; rfl) ?_
    have e1 : sliceMade (tx z) t l u c = Made.str (tx z.reverse) := by
      unfold sliceMade slicePicked
      rw [el, eu, ec]
      have : Builtin.Str.strSliceIndices none none ((some (-1) : Option Int).getD 1) (tx z).length = (List.range z.length).map fun k => z.length - 1 - k := by
        rw [tx_length]
        unfold Builtin.Str.strSliceIndices
        exact back_range z.length z.length _ rfl
      rw [this, if_neg (by simp), List.filterMap_map]
      have e2 := back_pick (tx z).cps z.length z.length (by simp [tx]) (fun k => z.length - 1 - k) (fun k hk => rfl) rfl
      have e3 : (List.range z.length).filterMap ((fun x => (tx z).cps[x]?) ∘ fun k => z.length - 1 - k) = z.reverse := by
        refine Eq.trans e2 ?_
        simp [tx]
      rw [e3]
      rfl
    rw [e1]
    exact ⟨by rw [tx_length, List.length_reverse]; exact hz, .str _, H4, I5.tok _, ⟨_, rfl⟩, q⟩
theorem s_rev {a : E} {pa : Expr} {k : Nat} {p1 p2 p3 pos : Pos} (ha : PE X pa (tE C X.K a)) : PE X (.Subscript pa (.Slice none none (some (.UnaryOp .USub (.Constant (.int 1) k p1) p2)) p3) pos) (tE C X.K (.rev a)) :=
  imE (pe_bk ha) fun σ H Q q => by
    obtain ⟨β, ρ, h, r, h', ee, ok, e, p⟩ := q
    simp only [ev] at e
    obtain ⟨r1, h1, e1, e⟩ := bind_ok e
    refine oneE ee ok e1 fun v H1 β1 F ok1 ee1 x1 R1 f1 => ?_
    unfold revV at e
    split at e
    · cases e
      obtain ⟨a, vs, rfl, s, q⟩ := Rel.tup R1
      refine .inr (.inl ⟨a, vs, rfl, SqT.of s, fun p2 hp => ?_⟩)
      have xn : Ext β1 H1 β1 (upd H1 p2 (.tup vs.reverse)) := Ext.new hp
      exact p.val (ok1.new hp) (x1.trans xn) (mkTup upd_same ((Rels.reverse q).mono (Kp.of ok1 xn) _ _))
    · obtain ⟨c, rfl, rfl⟩ := when_ok e
      rw [Rel.str R1]
      exact .inr (.inr ⟨_, rfl, by rw [← lim_eq]; exact of_decide_eq_true c, p.val ok1 x1 (mkStr _)⟩)
    · obtain ⟨e3, rfl⟩ := opt_ok e
      obtain ⟨xs, e4, rfl⟩ := map_some e3
      obtain ⟨a, vs, rfl, s, q⟩ := lstOf_ok ok1 R1 e4
      exact .inl ⟨a, vs, rfl, s, fun p2 hp => p.newL ok1 x1 hp (Rels.reverse q)⟩
end
end G

/-! H5: e[-2::-1], join, index, startswith, a range with a step. -/
namespace G
open PySem PySem.Spec L2
open PyProof.Rows hiding St
section
variable {X : Cx} {C : Nat → List D → Hp → R Rv} {K : Frag}
def tBk2 (K : Frag) (te : TE) : TE := fun σ H Q => te σ H fun x H1 => ∃ a xs, x = .ref a ∧ SqL K H1 a xs ∧ ∀ p, H1 p = none → Q (.ref p) (upd H1 p (.lst xs.dropLast.reverse))
theorem vals_dropLast : ∀ {xs : List V} {us : List Value}, Vals xs us → Vals xs.dropLast us.dropLast
  | _, _, .nil => .nil
  | _, _, .cons r .nil => .nil
  | _, _, .cons r (.cons r2 rs) => .cons r (vals_dropLast (.cons r2 rs))
theorem pe_bk2 {e : Expr} {te : TE} {k k2 : Nat} {p1 p2 p3 p4 p5 pos : Pos} (he : PE X e te) : PE X (.Subscript e (.Slice (some (.UnaryOp .USub (.Constant (.int 2) k2 p4) p5)) none (some (.UnaryOp .USub (.Constant (.int 1) k p1) p2)) p3) pos) (tBk2 X.K te) := by
  refine ⟨fun pins s σ H Q I h => PyProof.Rows.Subscript_ (thn (he.run pins s σ H _ I h) ?_)⟩
  rintro v s1 ⟨x, H1, I1, r1, a, xs, rfl, hx, q⟩
  have minus : PO X (some (.UnaryOp .USub (.Constant (.int 1) k p1) p2)) (tPart (tUn (rU fun i => .int (-i)) (tC (.int 1)))) := po_some (pe_un un_neg pe_int)
  have minus2 : PO X (some (.UnaryOp .USub (.Constant (.int 2) k2 p4) p5)) (tPart (tUn (rU fun i => .int (-i)) (tC (.int 2)))) := po_some (pe_un un_neg pe_int)
  refine wpAny_Slice (thn (minus2.run pins s1 σ H1 (fun o H2 => o = some (-2) ∧ H2 = H1) I1 ⟨2, rfl, -2, rfl, rfl, rfl⟩) ?_)
  rintro vl s2 ⟨l, H2, I2, pl, rfl, rfl⟩
  refine thn (po_none.run pins s2 σ H2 (fun o H3 => o = none ∧ H3 = H2) I2 ⟨rfl, rfl⟩) ?_
  rintro vu s3 ⟨u, H3, I3, pu, rfl, rfl⟩
  refine thn (minus.run pins s3 σ H3 (fun o H4 => o = some (-1) ∧ H4 = H3) I3 ⟨1, rfl, -1, rfl, rfl, rfl⟩) ?_
  rintro vs s4 ⟨o, H4, I4, ps, rfl, rfl⟩
  have I5 : Inv X pins σ H4 { s4 with heap := s4.heap.push { cls := .type "slice", data := .fields #[vl, vu, vs] } } := I4.kept (t' := s4.toks) fun b ob q => Heap.get?_push_of_some _ q
  show wpAny (model X.prog X.w) X.A (subscriptTail e (.Slice (some (.UnaryOp .USub (.Constant (.int 2) k2 p4) p5)) none (some (.UnaryOp .USub (.Constant (.int 1) k p1) p2)) p3) v (.ref s4.heap.objs.size)) (EP X pins σ Q) X.xe { s4 with heap := s4.heap.push { cls := .type "slice", data := .fields #[vl, vu, vs] } }
  cases r1
  obtain ⟨its, r, ht, hz⟩ := I5.list hx
  have hl := r.length
  refine tail_any (ops := [.ref a, .ref s4.heap.objs.size]) ht.isList.typeIs (PySem.slot_list_getitem.lookup) ?_ (by with_unfolding_all rfl)
  refine wpAny_getItem_list_slice ht.isList (Heap.IsSliceOf.new _ vl vu vs) pl pu ps (by decide) ?_ (by rw [List.size_toArray]; omega)
  rw [pick_back2]
  exact ⟨.ref _, _, I5.laid (t' := s4.toks) (o := .lst xs.dropLast.reverse) (fun b ob q => Heap.get?_push_of_some _ q) (Nat.le_refl _) ⟨by rw [List.length_reverse, List.length_dropLast]; omega, _, 0, (vals_dropLast r).reverse, Heap.get?_push_size _ rfl⟩, rfl, q _ (I5.hok.fresh (Nat.le_refl _))⟩
theorem Rels.dropLast {β : List Addr} {H : AHp} {ds : List D} {vs : List V} (q : Rels K β H ds vs) : Rels K β H ds.dropLast vs.dropLast := by
  rw [List.dropLast_eq_take, List.dropLast_eq_take, q.length]
  exact Rels.take _ q
theorem s_rev2 {a : E} {pa : Expr} {k k2 : Nat} {p1 p2 p3 p4 p5 pos : Pos} (ha : PE X pa (tE C X.K a)) : PE X (.Subscript pa (.Slice (some (.UnaryOp .USub (.Constant (.int 2) k2 p4) p5)) none (some (.UnaryOp .USub (.Constant (.int 1) k p1) p2)) p3) pos) (tE C X.K (.rev2 a)) :=
  imE (pe_bk2 ha) fun σ H Q q => by
    obtain ⟨β, ρ, h, r, h', ee, ok, e, p⟩ := q
    simp only [ev] at e
    obtain ⟨r1, h1, e1, e⟩ := bind_ok e
    refine oneE ee ok e1 fun v H1 β1 F ok1 ee1 x1 R1 f1 => ?_
    obtain ⟨e3, rfl⟩ := opt_ok e
    obtain ⟨xs, e4, rfl⟩ := map_some e3
    obtain ⟨a, vs, rfl, s, q⟩ := lstOf_ok ok1 R1 e4
    exact ⟨a, vs, rfl, s, fun p2 hp => p.newL ok1 x1 hp (Rels.reverse (Rels.dropLast q))⟩
theorem i_r3 {a b c : E} {pa pb pc tg : Expr} {pp pos : Pos} (hg : Gl X "range") (hm : X.mg "range" = none) (ha : PE X pa (tE C X.K a)) (hb : PE X pb (tE C X.K b)) (hc : PE X pc (tE C X.K c)) (hs : starEach [pa, pb, pc] X.env = (false, eval pa X.env) :: starEach [pb, pc] X.env) (hs2 : starEach [pb, pc] X.env = (false, eval pb X.env) :: starEach [pc] X.env) (hs3 : starEach [pc] X.env = (false, eval pc X.env) :: starEach [] X.env) (hpl : (backTo pos (starEach [pb, pc] X.env)).any (·.1) = false) : PI X tg (.Call (.Name "range" pp) [pa, pb, pc] [] pos) (tI C X.K (.r3 a b c)) :=
  imI (pi_range3 hg hm (a_cons ha (a_cons hb (a_cons hc a_nil hs3) hs2) hs) hs hpl) fun σ H Rr q => by
    obtain ⟨β, ρ, h, p, h', ee, ok, e0, k⟩ := q
    simp only [evi] at e0
    obtain ⟨r1, h1, e1, e2⟩ := bind_ok e0
    obtain ⟨r2, h2, e3, e2⟩ := bind_ok e2
    obtain ⟨r3, h3, e4, e2⟩ := bind_ok e2
    refine ⟨β, ρ, h, [r1, r2, r3], h3, ee, ok, by simp only [evs, e1, e3, e4, R.bind], fun vs H1 β1 F ok1 x1 R1 nd f => ?_⟩
    obtain ⟨v, t, F1, F2, rfl, rfl, R1, v2, t2, F3, F4, rfl, rfl, R2, v3, t3, F5, F6, rfl, rfl, R3, rfl, rfl⟩ := R1
    split at e2
    · obtain ⟨e5, rfl, rfl⟩ := when_ok e2
      simp only [Bool.and_eq_true, decide_eq_true_eq] at e5
      obtain ⟨⟨⟨c1, c2⟩, c3⟩, c4⟩ := e5
      exact ⟨_, _, _, _, by rw [Rel.int R1, Rel.int R2, Rel.int R3], ⟨c1, c2, c3, by rw [rangeN, Int.toNat_of_nonneg c4]⟩, k _ _ β1 ok1 x1 good_rangeC⟩
    · cases e2
/-! ### join -/
theorem strs_ok {β : List Addr} {H : AHp} : ∀ {ds : List D} {vs : List V} {ss : List (List Nat)}, Rels K β H ds vs → strsOf ds = some ss → vs = (ss.map tx).map V.str
  | [], vs, ss, q, e => by
    simp only [Rels] at q
    cases e
    exact q
  | d :: ds, vs, ss, q, e => by
    simp only [Rels] at q
    obtain ⟨v, t, rfl, q1, q2⟩ := q
    cases d with
    | str s =>
      simp only [strsOf] at e
      obtain ⟨r, e1, rfl⟩ := map_some e
      simp only [Rel] at q1
      rw [strs_ok q2 e1, q1]
      rfl
    | _ => cases e
theorem joinS_eq (sep : List Nat) : ∀ l : List (List Nat), joinS sep l = TL.joinL sep l
  | [] => rfl
  | [x] => rfl
  | x :: y :: r => by
    simp only [joinS, TL.joinL, joinS_eq sep (y :: r), List.append_assoc]
theorem seqJ {β : List Addr} {H : AHp} {h : Hp} {r : Rv} {v : V} {F : List Addr} {ds : List D} (ok : HpOk K β H h) (R1 : RelR K β H r v F) (e : ltOf h r = some ds) : ∃ a vs, v = .ref a ∧ (SqL K H a vs ∨ SqT K H a vs) ∧ Rels K β H ds vs := by
  unfold ltOf at e
  split at e
  · cases e
    obtain ⟨a, vs, rfl, s, q⟩ := Rel.tup R1
    exact ⟨a, vs, rfl, .inr (SqT.of s), q⟩
  · cases e
    obtain ⟨a, vs, rfl, s, q⟩ := Rel.ktup R1
    exact ⟨a, vs, rfl, .inr s, q⟩
  · obtain ⟨a, vs, rfl, s, q⟩ := lstOf_ok ok R1 e
    exact ⟨a, vs, rfl, .inl s, q⟩
theorem s_join {o a : E} {po pa : Expr} {apos pos : Pos} (ho : PE X po (tE C X.K o)) (ha : PE X pa (tE C X.K a)) (hb : plainBase po = true) (hl : (apos.endLine == pos.line) = true) (hs : starEach [pa] X.env = (false, eval pa X.env) :: starEach [] X.env) :
    PE X (.Call (.Attribute po "join" apos) [pa] [] pos) (tE C X.K (.mt .join o (.cons a .nil))) :=
  imE (pe_join ho ha hs (base_of hb _ _ _) hl) fun σ H Q q => by
    obtain ⟨β, ρ, h, r, h', ee, ok, e, p⟩ := q
    simp only [ev] at e
    obtain ⟨r1, h1, e1, e⟩ := bind_ok e
    split at e
    · rename_i rc
      obtain ⟨rs, h2, e2, e⟩ := bind_ok e
      simp only [evs] at e2
      obtain ⟨ra, h3, e3, e2⟩ := bind_ok e2
      cases e2
      cases r1 with
      | new _ => simp [recv] at rc
      | val d =>
        cases d with
        | str sep =>
          refine oneE ee ok e1 fun v1 H1 β1 F1 ok1 ee1 x1 R1 f1 => ⟨⟨_, Rel.str R1⟩, ?_⟩
          refine oneE ee1 ok1 e3 fun v2 H2 β2 F2 ok2 ee2 x2 R2 f2 => ?_
          simp only [mtV] at e
          obtain ⟨e4, rfl⟩ := opt_ok e
          obtain ⟨ds, e5, e6⟩ := bind_some e4
          obtain ⟨ss, e7, e8⟩ := bind_some e6
          split at e8
          · rename_i hz
            cases e8
            obtain ⟨a2, vs, rfl, sq, q2⟩ := seqJ ok2 R2 e5
            have ev := strs_ok q2 e7
            subst ev
            refine ⟨_, a2, ss.map tx, Rel.str R1, rfl, sq, ?_, ?_⟩
            · simp only [List.map_map, List.length_map, tx_length]
              exact hz
            · have ej : Txt.join (tx sep) (ss.map tx) = tx (joinS sep ss) := by
                rw [joinS_eq]
                exact SX.join_S sep ss
              rw [ej]
              exact p.val ok2 (x1.trans x2) (mkStr _)
          · cases e8
        | _ => simp [recv] at rc
    · cases e
/-! ### index -/
theorem occ_fst (x y : Str) (n : Nat) : ∀ (l : List Nat) (a : Array Nat) (f : Nat), a.size = 1 → (forIn l (a, f) (StrLaws.occBody x y n 1)).run.fst = a
  | [], a, f, h => rfl
  | i :: l, a, f, h => by
    rw [List.forIn_cons]
    unfold StrLaws.occBody
    rw [if_neg (fun z => by have := z.1.1.1; simp only [h] at this; omega)]
    exact occ_fst x y n l a f h
theorem occ_at (s : List Nat) (c : Nat) : ∀ (m lo : Nat) (k : Nat), idxOf c (s.drop lo) = some k → lo + m = s.length + 1 → (forIn (List.range' lo m) ((#[] : Array Nat), 0) (StrLaws.occBody (tx s) ⟨#[c]⟩ s.length 1)).run.fst = #[lo + k]
  | 0, lo, k, e, h => by
    rw [List.drop_of_length_le (by omega)] at e
    cases e
  | m + 1, lo, k, e, h => by
    rw [List.range'_succ, List.forIn_cons]
    have key := StrLaws.subAt_one (tx s) c lo
    rw [tx_length] at key
    have tl : (tx s).cps.toList = s := by simp [tx]
    rw [tl] at key
    cases ed : s.drop lo with
    | nil => rw [ed] at e; cases e
    | cons x r =>
      have hx : s[lo]? = some x := by
        have : (s.drop lo)[0]? = some x := by rw [ed]; rfl
        rw [List.getElem?_drop] at this
        simpa using this
      rw [ed] at e
      simp only [idxOf] at e
      unfold StrLaws.occBody
      split at e
      · rename_i hc
        subst hc
        cases e
        have hk := key.mpr hx
        rw [if_pos ⟨⟨⟨by simp, Nat.zero_le _⟩, hk.1⟩, hk.2⟩]
        exact occ_fst _ _ _ _ _ _ rfl
      · rename_i hc
        rw [if_neg (fun z => by
          have := key.mp ⟨z.1.2, z.2⟩
          rw [hx] at this
          exact hc (Option.some.inj this))]
        obtain ⟨k', e1, rfl⟩ := map_some e
        have ed2 : s.drop (lo + 1) = r := by rw [← List.drop_drop, ed]; rfl
        have ih := occ_at s c m (lo + 1) k' (by rw [ed2]; exact e1) (by omega)
        have e2 : lo + (k' + 1) = lo + 1 + k' := by omega
        rw [e2]
        exact ih
theorem occ_idx (s : List Nat) (c k : Nat) (e : idxOf c s = some k) : Builtin.Str.occurrences (tx s) (tx [c]) 0 (tx s).length 1 = [k] := by
  rw [StrLaws.occ_eq, tx_length]
  have := occ_at s c (s.length + 1) 0 k (by simpa using e) (by omega)
  rw [Nat.zero_add] at this
  exact congrArg Array.toList this
theorem mt_index_ok {h h' : Hp} {s : List Nat} {ra r : Rv} (e : mtV h .index (.val (.str s)) [ra] = .ok r h') : ∃ (c i : Nat), ra = .val (.str [c]) ∧ idxOf c s = some i ∧ r = .val (.int i) ∧ h' = h := by
  cases ra with
  | new _ => simp [mtV] at e
  | val d =>
    cases d with
    | str t =>
      match t with
      | [] => simp [mtV] at e
      | _ :: _ :: _ => simp [mtV] at e
      | [c] =>
        simp only [mtV] at e
        obtain ⟨e4, rfl⟩ := opt_ok e
        obtain ⟨i, e5, rfl⟩ := map_some e4
        exact ⟨c, i, rfl, e5, rfl, rfl⟩
    | _ => simp [mtV] at e
theorem s_index {o a : E} {po pa : Expr} {apos pos : Pos} (ho : PE X po (tE C X.K o)) (ha : PE X pa (tE C X.K a)) (hb : plainBase po = true) (hl : (apos.endLine == pos.line) = true) (hs : starEach [pa] X.env = (false, eval pa X.env) :: starEach [] X.env) :
    PE X (.Call (.Attribute po "index" apos) [pa] [] pos) (tE C X.K (.mt .index o (.cons a .nil))) :=
  imE (pe_m1 F.slot_str_index F.type_str_index mt_sindex ho ha hs (base_of hb _ _ _) hl) fun σ H Q q => by
    obtain ⟨β, ρ, h, r, h', ee, ok, e, p⟩ := q
    simp only [ev] at e
    obtain ⟨r1, h1, e1, e⟩ := bind_ok e
    split at e
    · rename_i rc
      obtain ⟨rs, h2, e2, e⟩ := bind_ok e
      simp only [evs] at e2
      obtain ⟨ra, h3, e3, e2⟩ := bind_ok e2
      cases e2
      cases r1 with
      | new _ => simp [recv] at rc
      | val d =>
        cases d with
        | str s =>
          refine oneE ee ok e1 fun v1 H1 β1 F1 ok1 ee1 x1 R1 f1 => ⟨⟨_, Rel.str R1⟩, ?_⟩
          refine oneE ee1 ok1 e3 fun v2 H2 β2 F2 ok2 ee2 x2 R2 f2 => ?_
          obtain ⟨c, i, rfl, e5, rfl, rfl⟩ := mt_index_ok e
          refine ⟨_, _, i, [], Rel.str R1, by rw [Rel.str R2], occ_idx s c i e5, p.val ok2 (x1.trans x2) (mkInt _)⟩
        | _ => simp [recv] at rc
    · cases e
theorem idxD_ok {h : Hp} {d : D} : ∀ {xs : List D} {j : Nat}, idxD h d xs = some j → (∃ x, xs[j]? = some x ∧ deq h 59 x d = true) ∧ ∀ (m : Nat) (x : D), m < j → xs[m]? = some x → deq h 59 x d = false
  | [], j, e => by cases e
  | x :: r, j, e => by
    simp only [idxD] at e
    split at e
    · rename_i hx
      cases e
      exact ⟨⟨x, rfl, hx⟩, fun m z hm => absurd hm (Nat.not_lt_zero _)⟩
    · rename_i hx
      obtain ⟨k, e1, rfl⟩ := map_some e
      obtain ⟨⟨y, a1, a2⟩, b⟩ := idxD_ok e1
      refine ⟨⟨y, by simpa using a1, a2⟩, fun m z hm hz => ?_⟩
      cases m with
      | zero => simp at hz; subst hz; simpa using hx
      | succ m => exact b m z (by omega) (by simpa using hz)
theorem mt_indexL_ok {h h' : Hp} {x ra r : Rv} (e : mtV h .indexL x [ra] = .ok r h') : ∃ (d : D) (xs : List D) (i : Nat), ra = .val d ∧ lstOf h x = some xs ∧ xs.all (dok h 59) = true ∧ dok h 59 d = true ∧ idxD h d xs = some i ∧ r = .val (.int i) ∧ h' = h := by
  cases ra with
  | new _ => simp [mtV] at e
  | val d =>
    simp only [mtV] at e
    obtain ⟨e4, rfl⟩ := opt_ok e
    obtain ⟨xs, e5, e6⟩ := bind_some e4
    split at e6
    · rename_i c
      rw [Bool.and_eq_true] at c
      obtain ⟨i, e7, rfl⟩ := map_some e6
      exact ⟨d, xs, i, rfl, e5, c.1, c.2, e7, rfl, rfl⟩
    · cases e6
theorem dps {β : List Addr} {H : AHp} {h : Hp} (ok : HpOk K β H h) : ∀ (xs : List D) (vs : List V), xs.all (dok h 59) = true → Rels K β H xs vs → DpAll K H vs (xs.map (toP h 59))
  | [], vs, a, r => by simp only [Rels] at r; subst r; exact .nil
  | x :: xs, vs, a, r => by
    simp only [Rels] at r
    obtain ⟨v, t, rfl, r1, r2⟩ := r
    simp only [List.all_cons, Bool.and_eq_true] at a
    exact .cons ((toP_ok ok 59 x a.1).2.2 v r1) (dps ok xs t a.2 r2)
theorem s_indexL {o a : E} {po pa : Expr} {apos pos : Pos} (hu : X.A.units + 65 < cLine) (ho : PE X po (tE C X.K o)) (ha : PE X pa (tE C X.K a)) (hb : plainBase po = true) (hl : (apos.endLine == pos.line) = true) (hs : starEach [pa] X.env = (false, eval pa X.env) :: starEach [] X.env) :
    PE X (.Call (.Attribute po "index" apos) [pa] [] pos) (tE C X.K (.mt .indexL o (.cons a .nil))) :=
  imE (pe_bm PySem.F.plainAttrs_list PySem.F.slot_list_index PySem.F.type_list_index (mt_indexD hu) ho (a_cons ha a_nil hs) (base_of hb _ _ _) (few1 hs) hl hs rfl) fun σ H Q q => by
    obtain ⟨β, ρ, h, r, h', ee, ok, e, p⟩ := q
    simp only [ev] at e
    obtain ⟨r1, h1, e1, e⟩ := bind_ok e
    split at e
    · rename_i rc
      simp only [recv] at rc
      obtain ⟨rs, h2, e2, e⟩ := bind_ok e
      refine oneE ee ok e1 fun v1 H1 β1 F1 ok1 ee1 x1 R1 f1 => ?_
      obtain ⟨xs0, hx0⟩ := Option.isSome_iff_exists.mp rc
      obtain ⟨b, vs0, rfl, s0, q0⟩ := lstOf_ok ok1 R1 hx0
      refine ⟨.inl ⟨rfl, vs0, s0⟩, β1, ρ, h1, rs, h2, ee1, ok1, e2, fun vs H2 β2 F ok2 x2 R2 nd f => ?_⟩
      simp only [evs] at e2
      obtain ⟨ra, h3, e3, e2⟩ := bind_ok e2
      cases e2
      obtain ⟨v, t, G1, G2, rfl, rfl, Ra, rfl, rfl⟩ := R2
      obtain ⟨d, xs, j, rfl, ex, c1, c2, ei, rfl, rfl⟩ := mt_indexL_ok e
      have R1' := R1.stay ok1 x2 fun a m => (f1 a m).1
      obtain ⟨b', vs', eb, s1, q1⟩ := lstOf_ok ok2 R1' ex
      cases eb
      obtain ⟨⟨y, y1, y2⟩, z⟩ := idxD_ok ei
      obtain ⟨t1, t2, t3⟩ := toP_ok ok2 59 d c2
      have al := List.all_eq_true.mp c1
      have hm : ∀ x ∈ xs, dok h' 59 x = true := al
      refine ⟨b, v, toP h' 59 d, xs.map (toP h' 59), j, toP h' 59 y, rfl, rfl, .lst s1 (dps ok2 xs vs' c1 q1), t3 v Ra.2, ?_, shaped_of t1 (by omega), by rw [List.getElem?_map, y1]; rfl, by rw [eqv_toP h' 59 y d (hm y (List.mem_of_getElem? y1)) c2]; exact y2, fun m w hmj hw => ?_, p.val ok2 (x1.trans x2) (mkInt _)⟩
      · refine shaped_of ?_ ?_
        · simp only [PyData.canLay0]
          exact lay_map _ xs fun x hx => (toP_ok ok2 59 x (hm x hx)).1
        · simp only [PyData.depth]
          have := depth_map (toP h' 59) 59 xs fun x hx => (toP_ok ok2 59 x (hm x hx)).2.1
          omega
      · rw [List.getElem?_map] at hw
        obtain ⟨x, ex2, rfl⟩ := map_some hw
        rw [eqv_toP h' 59 x d (hm x (List.mem_of_getElem? ex2)) c2]
        exact z m x hmj ex2
    · cases e
theorem cop_inD (hu : X.A.units + 65 < cLine) : CopR X .In .inD (rInD X.K) := ⟨op_inD hu, fun {β H h h' r1 r2 r' v1 v2 F1 F2 Q} ok e R1 R2 nf nd p => by
  cases r1 with
  | new o => simp [cmpV] at e
  | val d =>
    simp only [cmpV] at e
    obtain ⟨b, eb, rfl, rfl⟩ := boolR_ok e
    obtain ⟨xs, e1, e2⟩ := bind_some eb
    split at e2
    · rename_i c
      rw [Bool.and_eq_true] at c
      obtain ⟨c1, c2⟩ := c
      cases e2
      obtain ⟨a, vs, rfl, s1, q1⟩ := lstOf_ok ok R2 e1
      obtain ⟨t1, t2, t3⟩ := toP_ok ok 59 d c2
      have hm := List.all_eq_true.mp c1
      have ea : ((xs.map (toP h' 59)).any fun z => PyData.eqv z (toP h' 59 d)) = xs.any fun x => deq h' 59 x d := by
        rw [List.any_map]
        apply Bool.eq_iff_iff.mpr
        simp only [List.any_eq_true, Function.comp]
        constructor
        · rintro ⟨x, hx, z⟩
          exact ⟨x, hx, by rw [← eqv_toP h' 59 x d (hm x hx) c2]; exact z⟩
        · rintro ⟨x, hx, z⟩
          exact ⟨x, hx, by rw [eqv_toP h' 59 x d (hm x hx) c2]; exact z⟩
      refine ⟨toP h' 59 d, xs.map (toP h' 59), t3 _ R1.2, .lst s1 (dps ok xs vs c1 q1), shaped_of t1 (by omega), ?_, ?_⟩
      · refine shaped_of ?_ ?_
        · simp only [PyData.canLay0]
          exact lay_map _ xs fun x hx => (toP_ok ok 59 x (hm x hx)).1
        · simp only [PyData.depth]
          have := depth_map (toP h' 59) 59 xs fun x hx => (toP_ok ok 59 x (hm x hx)).2.1
          omega
      · rw [ea]
        exact p.val ok Ext.refl (mkBl _)
    · cases e2⟩
theorem s_dk0 {pos : Pos} : PE X (.Dict [] [] pos) (tE C X.K .dk0) := imE pe_dnewK fun σ H Q q => by
  obtain ⟨β, ρ, h, r, h', ee, ok, e, p⟩ := q
  simp only [ev] at e
  cases e
  intro a ha
  have xn : Ext β H β (upd H a (.dK [])) := Ext.new ha
  exact p (.ref a) _ β [a] (ok.new ha) xn ⟨a, rfl, rfl, [], upd_same, rfl⟩ fun b m => by
    simp at m
    subst m
    exact ⟨ok.notin ha, ha⟩
theorem s_dt {pos : Pos} : PE X (.Dict [] [] pos) (tE C X.K .dt) := imE pe_dnewT fun σ H Q q => by
  obtain ⟨β, ρ, h, r, h', ee, ok, e, p⟩ := q
  simp only [ev] at e
  cases e
  intro a ha
  have xn : Ext β H β (upd H a (.dT [])) := Ext.new ha
  exact p (.ref a) _ β [a] (ok.new ha) xn ⟨a, rfl, rfl, [], upd_same, rfl⟩ fun b m => by
    simp at m
    subst m
    exact ⟨ok.notin ha, ha⟩
/-! ### a chain of three -/
def tCh3 (r r' r'' : R2) (ta tb tc td : TE) : TE := fun σ H Q => ta σ H fun x H1 => tb σ H1 fun y H2 => r x y H2 fun z H3 => ∃ k, z = .bl k ∧
  (if k = true then tc σ H3 fun w H4 => r' y w H4 fun z H5 => ∃ k, z = .bl k ∧ (if k = true then td σ H5 fun u H6 => r'' w u H6 Q else Q (.bl false) H5) else Q (.bl false) H3)
theorem pe_ch3 {op op' op'' : CmpOp} {r r' r'' : R2} {a b c d : Expr} {ta tb tc td : TE} {pos : Pos} (ho : OpR X (compareOp op) r) (ho' : OpR X (compareOp op') r') (ho'' : OpR X (compareOp op'') r'') (ha : PE X a ta) (hb : PE X b tb) (hc : PE X c tc) (hd : PE X d td)
    (hm : lastMarks [op, op', op''] [b, c, d] = false) : PE X (.Compare a [op, op', op''] [b, c, d] pos) (tCh3 r r' r'' ta tb tc td) := by
  refine ⟨fun pins s σ H Q I h => Compare_chain (thn (ha.run pins s σ H _ I h) fun v s1 ⟨x, H1, I1, r1, q1⟩ => chain_link (thn (hb.run pins s1 σ H1 _ I1 q1) fun u s2 ⟨y, H2, I2, r2, q2⟩ => thn (ho pins s2 σ H2 x y v u _ I2 r1 r2 q2) ?_)) hm⟩
  rintro e3 s3 ⟨z, H3, I3, r3, k, rfl, q3⟩
  cases r3
  refine wpAny_truthy_bool ?_
  cases k with
  | false => exact ite_ff ⟨.bl false, H3, I3, rfl, q3⟩
  | true =>
    refine ite_tt (chain_link (thn (hc.run pins s3 σ H3 _ I3 q3) fun w s4 ⟨y4, H4, I4, r4, q4⟩ => thn (ho' pins s4 σ H4 y y4 u w _ I4 r2 r4 q4) ?_))
    rintro e5 s5 ⟨z, H5, I5, r5, k, rfl, q5⟩
    cases r5
    refine wpAny_truthy_bool ?_
    cases k with
    | false => exact ite_ff ⟨.bl false, H5, I5, rfl, q5⟩
    | true => exact ite_tt (chain_last (thn (hd.run pins s5 σ H5 _ I5 q5) fun w6 s6 ⟨y6, H6, I6, r6, q6⟩ => ho'' pins s6 σ H6 y4 y6 w w6 Q I6 r4 r6 q6))
theorem s_ch3 {o o' o'' : Cop} {op op' op'' : CmpOp} {rr rr' rr'' : R2} {a b c d : E} {pa pb pc pd : Expr} {pos : Pos} (B : CopR X op o rr) (B' : CopR X op' o' rr') (B'' : CopR X op'' o'' rr'') (ha : PE X pa (tE C X.K a)) (hb : PE X pb (tE C X.K b)) (hc : PE X pc (tE C X.K c)) (hd : PE X pd (tE C X.K d)) (hm : lastMarks [op, op', op''] [pb, pc, pd] = false) : PE X (.Compare pa [op, op', op''] [pb, pc, pd] pos) (tE C X.K (.ch3 o o' o'' a b c d)) :=
  imE (pe_ch3 B.run B'.run B''.run ha hb hc hd hm) fun σ H Q q => by
    obtain ⟨β, ρ, h, r, h', ee, ok, e, p⟩ := q
    simp only [ev] at e
    obtain ⟨r1, h1, e1, e⟩ := bind_ok e
    obtain ⟨r2, h2, e2, e⟩ := bind_ok e
    split at e
    · rename_i i
      obtain ⟨r3, h3, e3, e⟩ := bind_ok e
      refine twoE (k := fun v1 v2 H2 => rr v1 v2 H2 fun z H3 => ∃ k, z = .bl k ∧ (if k = true then tE C X.K c σ H3 (fun w H4 => rr' v2 w H4 fun z H5 => ∃ k, z = .bl k ∧ (if k = true then tE C X.K d σ H5 (fun u H6 => rr'' w u H6 Q) else Q (.bl false) H5)) else Q (.bl false) H3)) ee ok e1 e2 fun v1 v2 H2 β2 F1 F2 ok2 ee2 x2 R1 R2 f nd => ?_
      obtain ⟨⟨c0, rfl⟩, rfl⟩ := cmpV_bool e3
      refine B.of ok2 e3 R1 R2 (fun a m => (f a m).1) nd fun v H' β' F ok' x' R' f' => ⟨c0, Rel.bl R', ?_⟩
      have ev2 := Rel.int R2
      subst ev2
      cases c0 with
      | false =>
        cases e
        exact iteF (p.val ok' (x2.trans x') (mkBl _))
      | true =>
        refine iteT ?_
        obtain ⟨r4, h4, e4, e⟩ := bind_ok e
        refine oneE (ee2.mono (Kp.of ok2 x')) ok' e4 fun w H4 β4 F4 ok4 ee4 x4 R4 f4 => ?_
        split at e
        · rename_i j
          obtain ⟨r5, h5, e5, e⟩ := bind_ok e
          obtain ⟨⟨c1, rfl⟩, rfl⟩ := cmpV_bool e5
          have ev4 := Rel.int R4
          subst ev4
          have xa := (x2.trans x').trans x4
          refine B'.of (F1 := []) (F2 := []) ok4 e5 ⟨rfl, mkInt i⟩ ⟨rfl, mkInt j⟩ (fun a m => nomatch m) List.nodup_nil fun v5 H5 β5 F5 ok5 x5 R5 f5 => ⟨c1, Rel.bl R5, ?_⟩
          cases c1 with
          | false =>
            cases e
            exact iteF (p.val ok5 (xa.trans x5) (mkBl _))
          | true =>
            refine iteT ?_
            obtain ⟨r6, h6, e6, e⟩ := bind_ok e
            refine oneE (ee4.mono (Kp.of ok4 x5)) ok5 e6 fun u H6 β6 F6 ok6 ee6 x6 R6 f6 => ?_
            refine B''.of (F1 := []) ok6 e ⟨rfl, mkInt j⟩ R6 (fun a m => (f6 a (by simpa using m)).1) ?_ (p.later ok6 ((xa.trans x5).trans x6))
            cases r6 with
            | val d => rw [R6.1]; exact List.nodup_nil
            | new o => obtain ⟨a, _, e, _⟩ := R6; rw [e]; simp
        · cases e
    · cases e
end
end G

/-! H6: len({elt for target in iter}), elt whole numbers or texts. -/
namespace G
open PySem PySem.Spec L2
open PyProof.Rows hiding St
/-- the new, empty set -/
abbrev freshSet (w : World) : Obj := { cls := .type "set", dict := none, data := .set #[] 0 (.fresh 0 0 (!w.params.followText "set-order")) }
theorem fresh_is {P : Program} {w : World} (h : Heap) : (h.push (freshSet w)).SetOf (mixKind P w) h.objs.size (fun _ => false) 0 :=
  ⟨_, #[], 0, _, Heap.get?_push_size _ rfl, ⟨rfl, rfl, rfl⟩, rfl, (fun e he => by simp at he), (fun k => by simp), (by decide), (by rfl), rfl⟩
section
variable {X : Cx}
theorem addK_ok {pins : List (Addr × Obj)} {σ : St} {H : AHp} {s : Shared} {E : Value → Shared → Prop} {a : Addr} {S : Key → Bool} {n : Nat} {k : Key} {u : Value} {Q : Value → Shared → Prop} (I : Inv X pins σ H s) (e : H a = some (SetK X.prog X.w a S n)) (room : n + 1 < scanBound) (r : RelV (kV k) u)
    (q : ∀ s', Inv X pins σ (upd H a (SetK X.prog X.w a (fun j => S j || decide (j = k)) (if S k = true then n else n + 1))) s' → Q .none s') : wpAny (model X.prog X.w) X.A (call (.builtin "set.add") [.ref a, u]) Q E s := by
  refine call_set_add (kV_is r) (key_scan r) (setK_get I e) room fun h' sb new => q _ (I.write (e := a) (t' := s.toks + 1) (by rw [e]; trivial) (.inl rfl) (fun b o nb g => (sb.2 b nb).trans g) ?_ (setK_new new))
  obtain ⟨o, _, _, _, g, _⟩ := id new
  exact ⟨o, g⟩
/-- the reading: at z the set while it grows -/
def tScK (P : Program) (w : World) (wi : TI) (g : TG) (te : TE) (vs : List Nat) : TE := fun σ H Q => wi σ H fun J H1 => ∀ z, H1 z = none → ∃ W : Nat → Nat → AHp → Prop, (∃ m, W 0 m (upd H1 z (SetK P w z (fun _ => false) 0))) ∧ ∀ i m H, W i m H →
  (J.stop i H ∧ Q (.ref z) H) ∨ (J.go i H ∧ ∃ Nx : AHp → Prop, (∀ H', Nx H' → ∃ m', m' < m ∧ W (i + 1) m' H') ∧ ∀ x H', J.yld i H x H' → g x (wipe σ vs) H' fun σ2 H2 => wipe σ2 vs = wipe σ vs ∧
    te σ2 H2 fun y H4 => ∃ (k : Key) (S : Key → Bool) (n : Nat), y = kV k ∧ H4 z = some (SetK P w z S n) ∧ n + 1 < scanBound ∧ Nx (upd H4 z (SetK P w z (fun j => S j || decide (j = k)) (if S k = true then n else n + 1))))
theorem scK_core {pins : List (Addr × Obj)} {s : Shared} {σ : St} {H : AHp} {Q : VK} {elt tg iter : Expr} {scope : Scope} {own : List (PySem.Str × Nat)} {pos pos' : Pos} {wi : TI} {g : TG} {te : TE} {use : Option (Value → Sem Unit)} {Qf : Value → Shared → Prop}
    (hc : X.calm = true) (hN : X.N.Nodup) (I : Inv X pins σ H s) (hi : PI X tg iter wi) (ok : BlkOk X.N X.env.scope scope own)
    (hg : ∀ (s : Shared) (H : AHp) (c : Addr) (cl : List (PySem.Str × Addr)) (fp : List Addr), PG (X.blk s H scope (compEnvC scope cl c X.env) fp) tg g)
    (he : ∀ (s : Shared) (H : AHp) (c : Addr) (cl : List (PySem.Str × Addr)) (fp : List Addr), PE (X.blk s H scope (compEnvC scope cl c X.env) fp) elt te) (hs : ∀ x, foldedSetIterable iter X.env x = pure x)
    (h : tScK X.prog X.w wi g te (own.map (·.2)) σ H Q)
    (hRR : ∀ z c s' m H', Inv X pins σ H' s' → Q (.ref z) H' → s'.heap.Ns c m → FpOk X pins H' c → compPost (model X.prog X.w) X.A X.xe use Qf (.ref z) c (.ok .next) s') :
    wpAny (model X.prog X.w) X.A (comprehension (.SetComp elt [⟨tg, iter, [], 0⟩] scope pos) scope X.env pos' (newSet (.type "set")) false (eval iter X.env) use) Qf X.xe s := by
  have cells : ∀ y ∈ scope.names, y.2 = .free → ∃ c, X.env.cells.lookup y.1 = some c := fun y hy e => (ok.free y hy e).elim (fun k => I.ok.has _ (.inl k)) (fun k => I.ok.has _ (.inr k))
  refine wpAny_comprehension_free (use := use) rfl hs (closure_ok cells) ok.kind (fun y hy e => by rw [ok.uniq y hy, e]) (thn (hi.run pins s σ H _ I h) fun xv s1 hx => thn hx ?_)
  rintro itv s2 ⟨it, fp, tn, J, H2, rfl, I2, T, st2, f2, q⟩
  refine PpSet.newSet_ok (newEnv_comp ?_)
  generalize hz : s2.heap.objs.size = z
  have zn : H2 z = none := I2.hok.fresh (Nat.le_of_eq hz)
  obtain ⟨W, ⟨m0, w0⟩, turn⟩ := q z zn
  generalize es3 : ({ s2 with heap := s2.heap.push (freshSet X.w) } : Shared) = s3
  have h3 : s3.heap = s2.heap.push (freshSet X.w) := by rw [← es3]
  have I3 : Inv X pins σ (upd H2 z (SetK X.prog X.w z (fun _ => false) 0)) s3 := by
    rw [← es3]
    refine I2.laid (t' := s2.toks) (fun b o e => Heap.get?_push_of_some _ e) (Nat.le_of_eq hz) ?_
    rw [← hz]
    exact setK_new (fresh_is _)
  have f3 : ∀ b ∈ fp, FpOk X pins (upd H2 z (SetK X.prog X.w z (fun _ => false) 0)) b ∧ b < s3.heap.objs.size := fun b hb => by
    obtain ⟨o, e, _⟩ := T.obj _ _ st2 b hb
    have lt := Heap.lt_size e
    exact ⟨⟨by rw [upd_ne (by rw [← hz]; exact Nat.ne_of_lt lt)]; exact (f2 b hb).1, (f2 b hb).2⟩, by rw [h3, Heap.size_push]; exact Nat.lt_succ_of_lt lt⟩
  have st3 : tn 0 s3.heap := T.keep _ _ _ st2 fun b _ o e => by rw [h3]; exact Heap.get?_push_of_some _ e
  have I4 := block_start I3 ok hN f3
  have pg := hg s3 (upd H2 z (SetK X.prog X.w z (fun _ => false) 0)) s3.heap.objs.size (cellsFrom (s3.heap.objs.size + 1) scope.names (cloFrom X.env.cells scope.names [])) fp
  have pe := he s3 (upd H2 z (SetK X.prog X.w z (fun _ => false) 0)) s3.heap.objs.size (cellsFrom (s3.heap.objs.size + 1) scope.names (cloFrom X.env.cells scope.names [])) fp
  show codeAny _ _ (.compStart (.SetComp elt [⟨tg, iter, [], 0⟩] scope pos) 0 (.ref it) (.ref z) (compEnvC scope (cellsFrom (s3.heap.objs.size + 1) scope.names (cloFrom X.env.cells scope.names [])) s3.heap.objs.size X.env)) (compPost (model X.prog X.w) X.A X.xe use Qf (.ref z) s3.heap.objs.size) { s3 with heap := pushCells (s3.heap.push { cls := .type "dict", data := .dict #[] }) scope.names }
  have nfp : ∀ b ∈ fp, (upd H2 z (SetK X.prog X.w z (fun _ => false) 0)) b = none := fun b hb => (f3 b hb).1.1
  generalize hce : compEnvC scope (cellsFrom (s3.heap.objs.size + 1) scope.names (cloFrom X.env.cells scope.names [])) s3.heap.objs.size X.env = ce at I4 pg pe ⊢
  have cL : ce.locals = s3.heap.objs.size := by subst hce; rfl
  generalize hH3 : upd H2 z (SetK X.prog X.w z (fun _ => false) 0) = H3 at I3 I4 pg pe w0 nfp f3
  generalize hs4 : ({ s3 with heap := pushCells (s3.heap.push { cls := .type "dict", data := .dict #[] }) scope.names } : Shared) = s4 at I4 ⊢
  have st4 : tn 0 s4.heap := T.keep _ _ _ st3 fun b _ o e => by rw [← hs4]; exact pushCells_keeps _ _ _ _ (Heap.get?_push_of_some _ e)
  have stat : ∀ {σ' : St} {H' : AHp} {s' : Shared}, Inv (X.blk s3 H3 scope ce fp) [] σ' H' s' → (∀ b ∈ fp, H' b = none) → ∀ b ∈ fp, FpOk (X.blk s3 H3 scope ce fp) [] H' b := fun I' hn b hb =>
    ⟨hn b hb, (I'.ok.exf b hb).1, I'.ok.exfs b hb, .inl hb, fun x c e => (I'.ok.exf b hb).2 x c e, fun p hp => absurd (show p ∈ ([] : List (Addr × Obj)) ++ [] from hp) (by simp)⟩
  have loop : codeAny (model X.prog X.w) X.A (.compLoop (.SetComp elt [⟨tg, iter, [], 0⟩] scope pos) 0 (.ref it) (.ref z) ce) (compPost (model X.prog X.w) X.A X.xe use Qf (.ref z) s3.heap.objs.size) s4 := by
    refine PpSet.compLoopS_any (fun n s' => ∃ i H', Inv (X.blk s3 H3 scope ce fp) [] (wipe σ (own.map (·.2))) H' s' ∧ tn i s'.heap ∧ (∀ b ∈ fp, H' b = none) ∧ W i n H') ?_ m0 ⟨0, H3, I4, st4, nfp, w0⟩
    rintro n s5 ⟨i, H5, I5, st5, n5, w5⟩
    rcases turn i n H5 w5 with ⟨stop, qq⟩ | ⟨go, Nx, hNx, step⟩
    · refine thnF (T.done (X.blk s3 H3 scope ce fp) rfl rfl rfl hc i [] s5 _ H5 (fun _ _ => False) I5 (stat I5 n5) st5 stop) ?_
      rintro r s6 ⟨rfl, I6⟩
      have I7 : Inv X pins σ H5 s6 := I3.call' (ch := fp) I6.os I6.base I6.hok I6.bare fun b hb => ⟨(f3 b hb).1.2.2.2.1, (f3 b hb).1.2.1, (f3 b hb).1.2.2.2.2.1, (f3 b hb).1.2.2.2.2.2⟩
      have cn : H5 s3.heap.objs.size = none := by
        have := I6.free
        rw [← cL]
        exact this
      obtain ⟨m, hn, _⟩ := I6.loc
      have hn : s6.heap.Ns ce.locals m := hn
      rw [cL] at hn
      exact hRR z s3.heap.objs.size s6 m H5 I7 qq hn (I3.fpOk (Nat.le_refl _) cn)
    · refine thnF (T.item (X.blk s3 H3 scope ce fp) rfl rfl rfl hc i [] s5 _ H5 (fun _ _ => False) I5 (stat I5 n5) st5 go) ?_
      rintro r s6 ⟨u, rfl, h6⟩
      refine thnF h6 ?_
      rintro _ s7 ⟨x, H7, I7, r7, y7, st7, n7⟩
      refine thnF (pg.run _ s7 _ H7 x u _ (I7.pinned (stat I7 n7) (T.obj _ _ st7)) r7 (step x H7 y7)) ?_
      rintro _ s8 ⟨σ8, H8, I8, hw8, q8⟩
      refine wpAny_pure ?_
      show wpAny _ _ _ _ _ s8
      refine thnF (pe.run _ s8 σ8 H8 _ I8 q8) ?_
      rintro y s9 ⟨yv, H9, I9, r9, k, S, n0, rfl, hz9, room, nx⟩
      refine addK_ok (X := X.blk s3 H3 scope ce fp) I9 hz9 room r9 fun s' I' => ?_
      obtain ⟨m', hm, w'⟩ := hNx _ nx
      have pin' : ∀ b ∈ fp, ∀ o, s7.heap.get? b = some o → s'.heap.get? b = some o ∧ _ = none := fun b hb o e => by
        have z := I'.pin (b, o) (List.mem_append_right _ (List.mem_append_right _ (mem_pinsAt hb e)))
        exact ⟨z.1, z.2.1⟩
      have hl : (wipe σ (own.map (·.2))).length = σ8.length := by rw [← hw8, wipe_length]
      refine ⟨m', hm, i + 1, _, (I'.unpinned (pins := [])).weak hl (fun j v e => ?_), T.keep _ _ _ st7 fun b hb o e => (pin' b hb o e).1, fun b hb => ?_, w'⟩
      · rw [← hw8] at e
        exact (wipe_some e).1
      · obtain ⟨o, e, _⟩ := T.obj _ _ st7 b hb
        exact (pin' b hb o e).2
  exact PpSet.codeAny_compStart_set loop (T.self X.A 0 _ _ _ st4 loop)
/-- len({..}) -/
def tLenK (P : Program) (w : World) (wi : TI) (g : TG) (te : TE) (vs : List Nat) : TE := fun σ H Q => tScK P w wi g te vs σ H fun x H1 => ∃ (z : Addr) (S : Key → Bool) (n : Nat), x = .ref z ∧ H1 z = some (SetK P w z S n) ∧ n ≤ 100000 ∧ Q (.int (n : Nat)) H1
theorem pe_lenK {elt tg iter : Expr} {scope : Scope} {own : List (PySem.Str × Nat)} {pos p cpos : Pos} {wi : TI} {g : TG} {te : TE} (hc : X.calm = true) (hN : X.N.Nodup) (hgl : Gl X "len") (hm : X.mg "len" = none) (hi : PI X tg iter wi) (ok : BlkOk X.N X.env.scope scope own)
    (hg : ∀ (s : Shared) (H : AHp) (c : Addr) (cl : List (PySem.Str × Addr)) (fp : List Addr), PG (X.blk s H scope (compEnvC scope cl c X.env) fp) tg g)
    (he : ∀ (s : Shared) (H : AHp) (c : Addr) (cl : List (PySem.Str × Addr)) (fp : List Addr), PE (X.blk s H scope (compEnvC scope cl c X.env) fp) elt te) (hs : ∀ x, foldedSetIterable iter X.env x = pure x) :
    PE X (.Call (.Name "len" p) [.SetComp elt [⟨tg, iter, [], 0⟩] scope pos] [] cpos) (tLenK X.prog X.w wi g te (own.map (·.2))) := by
  refine ⟨fun pins s σ H Q I h => PyProof.Rows.Call_ (ld_blt I hgl hm PySem.boot_len (PyProof.Rows.callWith_builtin1 (PyProof.Rows.args_cons ?_ rfl) rfl rfl))⟩
  rw [PpSet.eval_SetComp]
  refine scK_core hc hN I hi ok hg he hs h fun z c s' m H' I' q hn f => ⟨m, hn, fun h'' sb => ?_⟩
  obtain ⟨f0, f1, f2, f3, f4, f5⟩ := f
  have I2 := I'.turned (t' := s'.toks) (fun b o hb e => (sb.2 b hb).trans e) f0 f1 f3 f4 f5
  obtain ⟨y, S, n, ey, e, hn2, q⟩ := q
  cases ey
  obtain ⟨o, es, ep, t, ho, hex, hd, _, _, _, hf, hsz⟩ := setK_get I2 e
  exact PyProof.Rows.args_nil (call_len_set ho hex hd hf (by rw [hsz]; omega) ⟨.int (n : Nat), H', I2.tok _, ⟨_, by rw [hsz]⟩, q⟩)
end
/-! ### the reading -/
theorem Kp.overE {K : Frag} {β : List Addr} {H : AHp} {p : Addr} {f : Heap → Prop} {ob' : HO} (e : H p = some (.ext f)) : Kp K β H β (upd H p ob') := by
  refine ⟨fun a vs s => by rw [upd_ne (fun z => by rw [z, e] at s; cases s)]; exact s, fun a vs s => ?_, fun _ _ z => z⟩
  rcases s with ⟨o, s⟩ | s
  · exact .inl ⟨o, by rw [upd_ne (fun z => by rw [z, e] at s; cases s)]; exact s⟩
  · exact .inr s
theorem HpOk.overE {K : Frag} {β : List Addr} {H : AHp} {h : Hp} {p : Addr} {f : Heap → Prop} {ob' : HO} (ok : HpOk K β H h) (np : p ∉ β) (e : H p = Option.some (HO.ext f)) : HpOk K β (upd H p ob') h :=
  ⟨ok.len, ok.nd, fun n o q => by
    obtain ⟨a, e1, x⟩ := ok.obj n o q
    exact ⟨a, e1, x.mono (Kp.overE e) fun o2 q2 => by rw [upd_ne (show a ≠ p from fun z => np (by rw [← z]; exact List.mem_of_getElem? e1))]; exact q2⟩⟩
section
variable {X : Cx} {C : Nat → List D → Hp → R Rv} {K : Frag} {P : Program} {w : World}
/-- a key as a value -/
theorem key_of {β : List Addr} {H : AHp} {d : D} {v : V} (r : Rel K β H d v) (k : keyOk d = true) : ∃ x : Key, v = kV x ∧ keyR d x := by
  cases d with
  | int i => simp only [Rel] at r; exact ⟨.inl i, r, rfl⟩
  | str s => simp only [Rel] at r; exact ⟨.inr (tx s), r, rfl⟩
  | _ => simp [keyOk] at k
theorem key_inj {d e : D} {x : Key} (a : keyR d x) (b : keyR e x) : d = e := by
  cases d <;> cases e <;> simp only [keyR] at a b <;> first | (subst a; simp at b; done) | skip
  · subst a; simp at b; rw [b]
  · subst a
    rw [tx_inj (Sum.inr.inj b).symm] 
/-- the set of the keys of a list -/
def setL (l : List D) (S : Key → Bool) : Prop := ∀ x : Key, S x = true ↔ ∃ d ∈ l, keyR d x
def lenF (C : Nat → List D → Hp → R Rv) (ρ : Env) (own : List Nat) (tg : Tg) (elt : E) : D → Hp → R (List D) := fun d h => match bindTg (wipeE ρ own) tg d with
  | some ρ1 => (ev C elt ρ1 h).bind fun r h => match r with
    | .val d => when_ (keyOk d) h [d]
    | _ => .bad
  | none => .bad
theorem beq_refl : ∀ d : D, keyOk d = true → D.beq d d = true := fun d k => by
  cases d <;> simp [keyOk] at k <;> simp [D.beq]
theorem addD_mem (l : List D) (d e : D) : e ∈ addD l d ↔ e ∈ l ∨ e = d := by
  unfold addD
  split
  · rename_i h
    obtain ⟨y, hy, ey⟩ := List.any_eq_true.mp h
    have := beq_eq y d ey
    subst this
    exact ⟨.inl, fun z => z.elim id fun e => e ▸ hy⟩
  · simp
theorem addD_len (l : List D) (d : D) (k : keyOk d = true) (S : Key → Bool) (x : Key) (hx : keyR d x) (hS : setL l S) : (addD l d).length = if S x = true then l.length else l.length + 1 := by
  unfold addD
  by_cases h : S x = true
  · rw [if_pos h]
    obtain ⟨e, me, re⟩ := (hS x).mp h
    have := key_inj re hx
    subst this
    rw [if_pos ((List.any_eq_true (p := fun y => D.beq y e)).mpr ⟨e, me, beq_refl e k⟩)]
  · rw [if_neg h, if_neg]
    · simp
    · intro z
      obtain ⟨y, hy, ey⟩ := List.any_eq_true.mp z
      have := beq_eq y d ey
      subst this
      exact h ((hS x).mpr ⟨y, hy, hx⟩)
theorem setL_add {l : List D} {d : D} {S : Key → Bool} {x : Key} (hx : keyR d x) (hS : setL l S) : setL (addD l d) (fun j => S j || decide (j = x)) := fun y => by
  simp only [Bool.or_eq_true, decide_eq_true_eq, hS y]
  constructor
  · rintro (⟨e, me, re⟩ | rfl)
    · exact ⟨e, (addD_mem l d e).mpr (.inl me), re⟩
    · exact ⟨d, (addD_mem l d d).mpr (.inr rfl), hx⟩
  · rintro ⟨e, me, re⟩
    rcases (addD_mem l d e).mp me with m | rfl
    · exact .inl ⟨e, m, re⟩
    · refine .inr ?_
      cases e <;> simp only [keyR] at re hx
      · rw [re, hx]
      · rw [re, hx]
theorem addD_le (l : List D) (d : D) : (addD l d).length ≤ l.length + 1 := by
  unfold addD
  split <;> simp
theorem len_read {own : List Nat} {tg : Tg} {it : It} {elt : E} (hsub : ∀ i ∈ tg.slots, i ∈ own) (σ : St) (H : AHp) (Q : VK) (q : tE C K (.lenS own tg it elt) σ H Q) : tLenK P w (tI C K it) (tG K tg) (tE C K elt) own σ H Q := by
  obtain ⟨β, ρ, h, r, h', ee, ok, e, p⟩ := q
  simp only [ev] at e
  obtain ⟨⟨ds, ws⟩, h1, e1, e⟩ := bind_ok e
  obtain ⟨zs, h2, e2, e⟩ := bind_ok e
  obtain ⟨c1, rfl, rfl⟩ := when_ok e
  have c1 := of_decide_eq_true c1
  refine ⟨β, ρ, h, (ds, ws), h1, ee, ok, e1, fun J H1 β1 ok1 x1 g z hz => ?_⟩
  simp only at g e2
  have e2 : compL ws (lenF C ρ own tg elt) ds h1 = .ok zs h' := e2
  have nz1 : z ∉ β1 := ok1.notin hz
  have hz0 : H z = none := x1.none ok1 hz
  have sb : (4000 : Nat) < scanBound := by decide
  refine ⟨fun i m H2 => m = ds.length - i ∧ i ≤ ds.length ∧ ∃ β2 h2, ∃ (acc ys : List D) (S : Key → Bool), HpOk K β2 H2 h2 ∧ Ext β1 H1 β2 H2 ∧ z ∉ β2 ∧ H2 z = some (SetK P w z S (acc.foldl addD []).length) ∧ setL (acc.foldl addD []) S ∧ compL ws (lenF C ρ own tg elt) (ds.drop i) h2 = .ok ys h' ∧ acc ++ ys = zs,
    ⟨ds.length, rfl, Nat.zero_le _, β1, h1, [], zs, fun _ => false, ok1.new hz, Ext.new hz, nz1, upd_same, (fun x => by simp), e2, rfl⟩, ?_⟩
  rintro i m H2 ⟨rfl, hi, β2, h2, acc, ys, S, ok2, x2, nz2, ez2, sl, ec, ez⟩
  by_cases hlt : i < ds.length
  · have ed : ds.drop i = ds[i] :: ds.drop (i + 1) := List.drop_eq_getElem_cons hlt
    rw [ed] at ec
    obtain ⟨sm, xs, h3, zs2, ef, ec2, rfl⟩ := compL_ok ec
    refine .inr ⟨g.go i β2 H2 h2 ok2 x2 sm hlt, fun H3 => ∃ β2 h2, ∃ (acc ys : List D) (S : Key → Bool), HpOk K β2 H3 h2 ∧ Ext β1 H1 β2 H3 ∧ z ∉ β2 ∧ H3 z = some (SetK P w z S (acc.foldl addD []).length) ∧ setL (acc.foldl addD []) S ∧ compL ws (lenF C ρ own tg elt) (ds.drop (i + 1)) h2 = .ok ys h' ∧ acc ++ ys = zs,
      fun H3 k => ⟨ds.length - (i + 1), by omega, rfl, hlt, k⟩, fun v H3 y => ?_⟩
    obtain ⟨ok3, x3, d, hd, rd⟩ := g.yld i β2 H2 h2 v H3 ok2 x2 sm hlt y
    rw [List.getElem?_eq_getElem hlt] at hd
    cases hd
    have ez3 : H3 z = some (SetK P w z S (acc.foldl addD []).length) := x3.fr z _ ez2 nz2
    unfold lenF at ef
    split at ef
    · rename_i ρ1 hb
      obtain ⟨r5, h5, e5, ef⟩ := bind_ok ef
      have xa : Ext β H β2 H3 := x1.trans (x2.trans x3)
      refine ⟨β2, wipeE ρ own, h2, ds[i], ρ1, ok3, (ee.mono (Kp.of ok xa)).wipe, rd, hb, fun σ' ee' hw => ⟨by rw [hw own hsub, wipe_wipe], ?_⟩⟩
      refine oneE ee' ok3 e5 fun v5 H5 β5 F5 ok5 ee5 x5 R5 f5 => ?_
      split at ef
      · rename_i d5
        obtain ⟨k5, rfl, rfl⟩ := when_ok ef
        obtain ⟨x, rfl, kx⟩ := key_of R5.2 k5
        have ez5 : H5 z = some (SetK P w z S (acc.foldl addD []).length) := x5.fr z _ ez3 nz2
        have nz5 : z ∉ β5 := fun mm => by
          rcases x5.nw z mm with y | y
          · exact nz2 y
          · rw [ez3] at y; cases y
        have la : acc.length + 1 ≤ zs.length := by rw [← ez]; simp
        have ll : ∀ l a : List D, (l.foldl addD a).length ≤ a.length + l.length := fun l => by
          induction l with
          | nil => intro a; simp
          | cons b l ih => intro a; have := ih (addD a b); have := addD_le a b; simp only [List.foldl_cons, List.length_cons]; omega
        have l0 := ll acc []
        simp only [List.length_nil] at l0
        have fd : (acc ++ [d5]).foldl addD [] = addD (acc.foldl addD []) d5 := by simp
        refine ⟨x, S, _, rfl, ez5, by omega, β5, h3, acc ++ [d5], zs2, (fun j => S j || decide (j = x)), ok5.overE nz5 ez5, ?_, nz5, ?_, ?_, ec2, by simpa using ez⟩
        · have x7 : Ext β1 H1 β5 H5 := (x2.trans x3).trans x5
          exact ⟨fun a o ea na => by
            rw [upd_ne (show a ≠ z from fun y => by rw [y, hz] at ea; cases ea)]
            exact x7.fr a o ea na, x7.nw, x7.pre⟩
        · rw [upd_same, fd, addD_len _ d5 k5 S x kx sl]
        · rw [fd]
          exact setL_add kx sl
      · cases ef
    · cases ef
  · have hi' : i = ds.length := by omega
    subst hi'
    rw [List.drop_length] at ec
    simp only [compL] at ec
    split at ec
    · rename_i sm
      cases ec
      rw [List.append_nil] at ez
      subst ez
      have ll : ∀ l a : List D, (l.foldl addD a).length ≤ a.length + l.length := fun l => by
        induction l with
        | nil => intro a; simp
        | cons b l ih => intro a; have := ih (addD a b); have := addD_le a b; simp only [List.foldl_cons, List.length_cons]; omega
      have l0 := ll acc []
      simp only [List.length_nil] at l0
      refine .inl ⟨g.stop β2 H2 h' ok2 x2 sm, z, S, _, rfl, ez2, by omega, p.val ok2 (x1.trans x2) (mkInt _)⟩
    · cases ec
end
end G

/-! X0: own exceptions whose __init__ says super().__init__(..) and stores its parameters. -/
namespace G
open PySem PySem.W PySem.Calls PyProof.Rows
open Builtin Builtin.ObjectAttr
/-- what the written part tells of an own class of errors at C, its __init__ at fI -/
structure ErrT (prog : Program) (K : W.Frag) (C fI : Addr) (B newId initId : String) (bmB : List Value) (fd : FuncData) (cc cda : Addr) : Prop where
  eb : ExcBaseFacts B newId initId bmB
  ks : KxsFacts B initId
  sf : StoreFacts B bmB "object.__setattr__" "object"
  ini : excInitIn K C bmB newId = true
  ovr : excOver K C bmB = true
  hdC : hasDictIn K C = true
  sa : findIn K (.ref C) "__setattr__" = some (some (.builtin "object.__setattr__"))
  iC : findIn K (.ref C) "__init__" = some (some (.ref fI))
  tI : typeIn K (.ref fI) = some (.type "function")
  exC : subIn K (.ref C) (.type "BaseException") = some true
  bC : subIn K (.ref C) (.type B) = some true
  tyC : typeIn K (.ref C) = some (.type "type")
  kC : keepIn K (.ref C) = true
  fn : ∃ oc od osl, K.lookup fI = some ⟨oc, od, .func fd, osl⟩
  clo : fd.closure = [(("__class__" : Str), cc)]
  cell : ∃ cl cld csl, K.lookup cc = some ⟨cl, cld, .cell (some (.ref C)), csl⟩
  code : fd.code = .ref cda
  cin : codeIn K fd.code fd.qualname = true
  file : ∃ ccl cdd vs ccs file tf, K.lookup cda = some ⟨ccl, cdd, .fields vs, ccs⟩ ∧ vs[2]? = some (.str file tf) ∧ ((prog.main.file : Str) == file) = true
  sup : nsIn K mainGlobals "super" = some none
  top : (prog.main.scope.names.lookup ("super" : Str)).isSome = false
  opq : nsIn K cStatics "thirdparty.any" = some none
  mth : ks_superIn K C C "__init__" = some (some (.builtin initId))
  glo : fd.globals = mainGlobals
  blt : fd.builtins = builtinsNs
  kind : fd.scope.kind = .function
  co : fd.scope.isCoroutine = false
  gen : fd.scope.isGenerator = false
  cells : ∀ y ∈ fd.scope.names, y.2 ≠ .cell
  kS : fd.scope.names.lookup ("super" : Str) = some .globalImplicit
  kC2 : fd.scope.names.lookup ("__class__" : Str) = some .free
section
variable {prog : Program} {w : World} {A : Around} {E : Value → Shared → Prop} {K : W.Frag} {mg mb : Str → Option Value} {C fI : Addr} {B newId initId : String} {bmB : List Value} {fd : FuncData} {cc cda : Addr}
/-- super().__init__(e) -/
theorem sup_stmt (T : ErrT prog K C fI B newId initId bmB fd cc cda) {body : List Stmt} {e : Expr} {p0 p1 p2 p3 p4 : Pos} {s : Shared} {m : Str → Option Value} {L x t0 : Addr} {ar : Arg} {Q : Flow → Shared → Prop}
    (X : K.In s.heap) (G0 : s.heap.Ns mainGlobals mg) (B0 : s.heap.Ns builtinsNs mb) (boot : ∀ y : Str, y ≠ "__name__" → mb y = bootBuiltins y) (hx : s.heap.get? x = some (excObj C t0 none .none)) (hL : s.heap.Ns L m)
    (hp : (fd.params.posonlyargs ++ fd.params.args).head? = some ar) (ha : fd.scope.names.lookup ar.arg = some .local) (hv : m ar.arg = some (.ref x))
    (hln : (p2.endLine == p3.line) = true) (hst : starEach [e] (callEnv fd L fI) = (false, eval e (callEnv fd L fI)) :: starEach [] (callEnv fd L fI))
    (he : ∀ {Q' : Value → Shared → Prop} {E' : Value → Shared → Prop} (s' : Shared), s'.heap.Ns L m → (∀ v tk, Q' v { s' with toks := tk }) → wpAny (model prog w) A (eval e (callEnv fd L fI)) Q' E' s')
    (hq : ∀ h' tk t1, (∀ b o, b ≠ x → s.heap.get? b = some o → h'.get? b = some o) → h'.get? x = some (excObj C t1 none .none) → Q .next { s with heap := h', toks := tk }) :
    _root_.PySem.wpAt (model prog w) A (.func body (callEnv fd L fI)) (exec (.Expr (.Call (.Attribute (.Call (.Name "super" p0) [] [] p1) "__init__" p2) [e] [] p3) p4) (callEnv fd L fI)) Q E s := by
  obtain ⟨oc, od, osl, hf⟩ := T.fn
  obtain ⟨cl, cld, csl, hcell⟩ := T.cell
  obtain ⟨ccl, cdd, vs, ccs, file, tf, hcode, hvs, hfile⟩ := T.file
  have I : InstAt s.heap x (excObj C t0 none .none) C none := ⟨hx, rfl, rfl, trivial⟩
  obtain ⟨cd, hcd⟩ : ∃ cd, clsIn K C = some cd := by
    have z := T.hdC
    unfold hasDictIn at z
    cases q : clsIn K C with
    | none => rw [q] at z; cases z
    | some cd => exact ⟨cd, rfl⟩
  obtain ⟨oD, hD1, hD2⟩ : ∃ oD, s.heap.get? C = some oD ∧ oD.data = .cls cd := by
    have z := hcd
    unfold clsIn at z
    split at z
    · rename_i ho
      cases z
      exact ⟨_, X _ _ ho, rfl⟩
    · cases z
  have hxC : x ≠ C := ks_ne X I hcd
  have hsub : mroIn K C (.ref C) = some true := by
    have z := T.ovr
    unfold excOver at z
    rw [hcd] at z
    simp only [Option.any_some] at z
    unfold mroIn
    rw [hcd, Option.bind_some]
    split at z
    · rename_i C' bm hm
      rw [Bool.and_eq_true] at z
      have ec : C' = C := eq_of_beq z.1
      rw [hm, ec]
      simp
    · cases z
  have hbootS : bootBuiltins "super" = some (.type "super") := by first | rfl | kernel_rfl
  have key := T.mth
  unfold ks_superIn at key
  rw [hcd, Option.bind_some] at key
  obtain ⟨hh, g, d, t, os⟩ := s
  have hform : methodCallForm (([e] : List Expr).length + ([] : List Keyword).length) (backTo p3 (starEach [e] (callEnv fd L fI))) (backToKw p3 (keywordEach [] (callEnv fd L fI))) = true := by
    rw [hst] <;> rfl
  have hint : interactive (callEnv fd L fI) = false := by
    show (fd.scope.kind == .module && _) = false
    rw [T.kind]
    rfl
  refine ks_wpAt_Expr_any (ks_wpAt_MethodCall (pl := L2.plainOf (.Call (.Name "super" p0) [] [] p1) (callEnv fd L fI)) ?_ (by
    rw [arm_eval_Call]
    simp only [L2.mcall_line hform hln]
    rfl)) hint
  refine ks_wpAt_super_base (env := callEnv fd L fI) T.kS T.kC2 (by decide) rfl (X _ _ hf) rfl hp (by show fd.code = _; exact T.code) (X _ _ hcode) rfl hvs hfile T.top ?_
  refine ks_loadName_global T.kind T.kS (loadGlobal_builtin (env := callEnv fd L fI) (by show hh.Ns fd.globals mg; rw [T.glo]; exact G0) (mg_none_of X G0 T.sup) (by show hh.Ns fd.builtins mb; rw [T.blt]; exact B0) ((boot _ (by decide)).trans hbootS) ⟨rfl, ?_⟩)
  refine wpAny_loadName_free T.kind T.kC2 (by show List.lookup _ fd.closure = _; rw [T.clo]; rfl) ⟨_, X _ _ hcell, rfl⟩ ?_
  refine wpAny_loadName_local T.kind ha hL hv ?_
  refine ks_wpAny_isType_cls hD1 hD2 ⟨rfl, ?_⟩
  refine ks_wpAny_call_super hD1 hD2 I.at_ I.cls (fun c e => by cases e) (looks_mroIn X hsub) (fun h1 e1 k1 => ?_)
  -- the built-in __init__, bound
  have X1 : K.In h1 := X.keeps k1
  refine kxs_getMethod T.ks e1 (looks_opaque X1 T.opq) (l₀ := cd.mro) (fun A Q E s k q => wpAny_bind ((looks_clsIn X1 hcd) A _ E s k (wpAny_pure q))) rfl X1 key ((InstAt.type (od := none) ⟨k1 _ _ hx, rfl, rfl, trivial⟩).andThen (looks_subIn X1 T.bC)) hxC (by decide) ?_
  have k2 : ∀ b o, hh.get? b = some o → (h1.push (kxs_mw initId x)).get? b = some o := fun b o q => Heap.get?_push_of_some _ (k1 b o q)
  have hu : (h1.push (kxs_mw initId x)).get? h1.objs.size = some (kxs_mw initId x) := Heap.get?_push_at rfl rfl
  have L2' : (h1.push (kxs_mw initId x)).Ns L m := hL.keeps k2
  show wpAny _ _ (callWith p3 (.ref h1.objs.size) [] (backTo p3 (starEach [e] (callEnv fd L fI))) []) _ _ _
  rw [hst]
  refine kxs_callWith (i := initId) (x := x) rfl (evalArgs_plain ?_)
  refine spliced_cons ?_
  show wpAny _ _ (eval e (callEnv fd L fI)) _ _ _
  refine he ⟨h1.push (kxs_mw initId x), g, d, t + 1, os⟩ L2' fun v tk => ?_
  refine spliced_nil ⟨hu, ?_⟩
  -- its call
  obtain ⟨nm, N', qn, bs, bm, hdct, sn, sub, ab, col, dd, k0, j1, j2, k3, k5, hC, hT⟩ := excInit_of (X.keeps k2) T.ini
  refine wpAny_call (codeAny_of_tree ?_)
  show wpAny _ A.in1 (callAny (.ref h1.objs.size) ⟨[v], []⟩) _ _ _
  simp only [callAny]
  refine wpAny_bind (wpAny_load hu ?_)
  simp only [kxs_mw, show (Value.type "method-wrapper" == Value.type "method" || Value.type "method-wrapper" == Value.type "builtin_function_or_method" || Value.type "method-wrapper" == Value.type "method-wrapper") = true by decide, if_true]
  refine KFB.if_so (by decide) ?_
  refine wpAny_bind (check_bound_init T.eb.toExcCallFacts hC (k2 _ _ hx) rfl ?_)
  refine wpAny_bind (wpAny_pure (wpAny_pure ?_))
  refine ⟨plainId_quiet T.eb.init.plain _, codeAny_builtin T.eb.initEntry ?_⟩
  refine exc_init_tree (cls := .ref C) (t0 := t0) (dv := none) (c2 := .none) (c3 := .none) (b4 := .bool false) (k2 _ _ hx) (by rw [sizeLine_eq]; exact (by decide : 1 ≤ 16777216)) fun h3 k3' e3 _ => ?_
  exact hq h3 _ _ (fun b o hb q => k3' b o hb (k2 b o q)) e3
/-! ### stores -/
theorem put_new {M : Model} {hp : Heap} {g : Array GenState} {d : Drawn} {t : Nat} {os : OsState} {dx : Addr} {name : Str} {tk : Tok} {v : Value} {m0 : Str → Option Value} {ns : List Str} {Q : Fin → Shared → Prop} (hn : hp.Ns1 dx m0) (hw : Within m0 ns) (hz : ns.length ≤ 1000)
    (hq : ∀ h' tk', h'.Ns1 dx (fun y => if y = name then some v else m0 y) → Heap.SameBut dx hp h' → Q (.done (.ret .none)) ⟨h', g, d, tk', os⟩) :
    wpAny M A (storeInDict dx (.str name tk) name v) Q E ⟨hp, g, d, t, os⟩ := PySem.OEX.store_in_old hn hw hz hq
/-- self.f = v, the first one -/
theorem st_first (T : ErrT prog K C fI B newId initId bmB fd cc cda) {hp : Heap} {g : Array GenState} {d : Drawn} {t : Nat} {os : OsState} {name : Str} {tk : Tok} {v : Value} {x t1 : Addr} {R : Result → Shared → Prop} (X : K.In hp) (hx : hp.get? x = some (excObj C t1 none .none)) (ha : findIn K (.ref C) name = some none)
    (hq : ∀ h' tk' dx, (∀ b o, b ≠ x → hp.get? b = some o → h'.get? b = some o) → hp.objs.size ≤ dx → dx ≠ x → h'.get? x = some (excObj C t1 (some dx) .none) →
      h'.Ns1 dx (fun y => if y = name then some v else none) → R (.ok (.ret .none)) ⟨h', g, d, tk', os⟩) :
    codeAny (model prog w) A (.call (.builtin "object.__setattr__") ⟨[.ref x, .str name tk, v], []⟩) R ⟨hp, g, d, t, os⟩ := by
  have I : InstAt hp x (excObj C t1 none .none) C none := ⟨hx, rfl, rfl, trivial⟩
  have hxs : x ≠ hp.objs.size := Nat.ne_of_lt (Heap.lt_size hx)
  refine osa_openX (s := ⟨hp, g, d, t, os⟩) T.sf X I T.ovr (r := none) (by unfold takerIn; rw [ha]; rfl) fun b => ?_
  obtain ⟨cd, hcd, hh⟩ : ∃ cd, clsIn K C = some cd ∧ cd.hasDict = true := by
    have z := T.hdC
    unfold hasDictIn at z
    cases q : clsIn K C with
    | none => rw [q] at z; cases z
    | some cd => rw [q] at z; exact ⟨cd, rfl, z⟩
  have hcls : Looks (model prog w) hp (classData C) cd := looks_clsIn X hcd
  show wpAny _ _ (storeInOwnDict (.ref x) (.ref C) (.str name tk) name v b) _ _ _
  refine wpAny_bind (wpAny_pure (wpAny_bind (instanceDict_exc (s := ⟨hp, g, d, t, os⟩) hx hcls hh ?_)))
  show wpAny _ _ (storeInDict hp.objs.size (.str name tk) name v) _ _ _
  have hx1 : (hp.push (dictOf [] 0)).get? x = some (excObj C t1 none .none) := Heap.get?_push_of_some _ hx
  refine HandSPX.store_in_new ⟨_, #[], _, (Heap.get?_update_ne _ _ _ _ hxs.symm).trans (Heap.get?_push_at rfl rfl), rfl, fun e he => absurd he (by simp), fun _ => rfl⟩ fun h' tk' hn' hs => ?_
  refine hq h' tk' hp.objs.size (fun b o hb ho => ?_) (Nat.le_refl _) hxs.symm ?_ hn'
  · exact (hs.2 b (Nat.ne_of_lt (Heap.lt_size ho))).trans ((Heap.get?_update_ne _ _ _ _ hb).trans (Heap.get?_push_of_some _ ho))
  · exact (hs.2 x hxs).trans (Heap.get?_update_self _ hx1 rfl)
/-- self.f = v, a further one -/
theorem st_next (T : ErrT prog K C fI B newId initId bmB fd cc cda) {hp : Heap} {g : Array GenState} {d : Drawn} {t : Nat} {os : OsState} {name : Str} {tk : Tok} {v : Value} {x t1 dx : Addr} {m0 : Str → Option Value} {ns : List Str} {R : Result → Shared → Prop} (X : K.In hp) (hx : hp.get? x = some (excObj C t1 (some dx) .none))
    (hn : hp.Ns1 dx m0) (hw : Within m0 ns) (hz : ns.length ≤ 1000) (ha : findIn K (.ref C) name = some none)
    (hq : ∀ h' tk', (∀ b o, b ≠ dx → hp.get? b = some o → h'.get? b = some o) → h'.Ns1 dx (fun y => if y = name then some v else m0 y) → R (.ok (.ret .none)) ⟨h', g, d, tk', os⟩) :
    codeAny (model prog w) A (.call (.builtin "object.__setattr__") ⟨[.ref x, .str name tk, v], []⟩) R ⟨hp, g, d, t, os⟩ := by
  obtain ⟨oD, esD, epD, hoD, hdD, _⟩ := hn.count hw
  have I : InstAt hp x (excObj C t1 (some dx) .none) C (some oD) := ⟨hx, rfl, rfl, hoD⟩
  refine osa_openX (s := ⟨hp, g, d, t, os⟩) T.sf X I T.ovr (r := none) (by unfold takerIn; rw [ha]; rfl) fun b => ?_
  show wpAny _ _ (storeInOwnDict (.ref x) (.ref C) (.str name tk) name v b) _ _ _
  obtain ⟨cd, hcd, hh⟩ : ∃ cd, clsIn K C = some cd ∧ cd.hasDict = true := by
    have z := T.hdC
    unfold hasDictIn at z
    cases q : clsIn K C with
    | none => rw [q] at z; cases z
    | some cd => rw [q] at z; exact ⟨cd, rfl, z⟩
  have hcls : Looks (model prog w) hp (classData C) cd := looks_clsIn X hcd
  obtain ⟨nm, bs, mro, nsx, qn, hdd, sn, sb, ab, col, del⟩ := cd
  dsimp only at hh
  subst hh
  unfold storeInOwnDict ownDictForStores
  repeat (first | with_reducible refine put_new hn hw hz ?_ | with_reducible refine wpAny_loadPart_at hx ?_ | with_reducible refine hcls.at ?_ | wp_step)
  intro h' tk' hn' hs
  exact hq h' tk' (fun b o hb ho => (hs.2 b hb).trans ho) hn'
/-! ### the whole __init__ -/
/-- self.f = f, one by one -/
def AsgsOk (self : Str) : List Str → List Stmt → Prop
  | [], l => l = []
  | f :: fs, l => ∃ p1 p2 p3 p4 r, l = .Assign [.Attribute (.Name self p1) f p2] (.Name f p3) p4 :: r ∧ AsgsOk self fs r
/-- the fields so far -/
inductive FldAt (h : Heap) (base : Nat) (x C : Addr) : List (Str × Value) → Prop
  | none {t1 : Addr} (hx : h.get? x = some (excObj C t1 none .none)) : FldAt h base x C []
  | some {t1 dx : Addr} {m0 : Str → Option Value} {l : List (Str × Value)} (hx : h.get? x = some (excObj C t1 (some dx) .none)) (hb : base ≤ dx) (ne : dx ≠ x) (hn : h.Ns1 dx m0) (he : ∀ y, m0 y = l.lookup y) (hl : l ≠ []) : FldAt h base x C l
theorem within_l : ∀ (l : List (Str × Value)) (m0 : Str → Option Value), (∀ y, m0 y = l.lookup y) → Within m0 (l.map (·.1)) := fun l m0 e y hy => by
  rw [e y] at hy
  have key : ∀ l : List (Str × Value), l.lookup y ≠ .none → y ∈ l.map (·.1) := by
    intro l
    induction l with
    | nil => intro h; exact absurd rfl h
    | cons p l ih =>
      obtain ⟨f, z⟩ := p
      intro h
      by_cases q : y = f
      · rw [q]; simp
      · have q2 : (y == f) = false := by simpa using q
        rw [List.lookup_cons, q2] at h
        exact List.mem_cons_of_mem _ (ih h)
  exact key l hy
theorem lookup_if (y name : Str) (v : Value) (l : List (Str × Value)) : (if y = name then some v else l.lookup y) = ((name, v) :: l).lookup y := by
  by_cases q : y = name
  · rw [if_pos q, q]; simp
  · have q2 : (y == name) = false := by simpa using q
    rw [if_neg q, List.lookup_cons, q2]
theorem kin_fresh {h : Heap} {a : Addr} (X : K.In h) (n : h.objs.size ≤ a) : K.lookup a = none := by
  cases e : K.lookup a with
  | none => rfl
  | some o => exact absurd (Heap.lt_size (X _ _ e)) (Nat.not_lt.mpr n)
theorem kin_but {h h' : Heap} {x : Addr} (X : K.In h) (hx : K.lookup x = none) (k : ∀ b o, b ≠ x → h.get? b = some o → h'.get? b = some o) : K.In h' := fun a o e =>
  k a o (fun z => by rw [z, hx] at e; cases e) (X a o e)
theorem ns_but {h h' : Heap} {L x : Addr} {m : Str → Option Value} (n : h.Ns L m) (hx : L ≠ x) (k : ∀ b o, b ≠ x → h.get? b = some o → h'.get? b = some o) : h'.Ns L m := by
  obtain ⟨o, es, ep, e, r⟩ := n
  exact ⟨o, es, ep, k _ _ hx e, r⟩
theorem run_asgs (T : ErrT prog K C fI B newId initId bmB fd cc cda) {self : Str} {m : Str → Option Value} {L x base : Nat} {vs : Str → Value} (hself : fd.scope.names.lookup self = some .local) (ms : m self = some (.ref x)) (hd0 : (self == ("__debug__" : Str)) = false) (hnx : K.lookup x = none) (kb : ∀ a o, K.lookup a = some o → a < base) (Q : Flow → Shared → Prop) :
    ∀ (fs : List Str) (sts : List Stmt) (l : List (Str × Value)) (s : Shared), AsgsOk self fs sts → (∀ f ∈ fs, fd.scope.names.lookup f = some .local ∧ m f = some (vs f) ∧ findIn K (.ref C) f = some none ∧ (f == ("__debug__" : Str)) = false) → l.length + fs.length ≤ 900 →
      K.In s.heap → s.heap.Ns L m → L < base → base ≤ s.heap.objs.size → x < base → L ≠ x → FldAt s.heap base x C l →
      (∀ h' tk, (∀ b o, b ≠ x → b < base → s.heap.get? b = some o → h'.get? b = some o) → FldAt h' base x C ((fs.map fun f => (f, vs f)).reverse ++ l) → Q .next { s with heap := h', toks := tk }) →
      wpAny (model prog w) A (execs sts (callEnv fd L fI)) Q E s
  | [], sts, l, s, ok, _, _, X, hL, _, _, _, _, F, hq => by
    have e : sts = [] := ok
    subst e
    exact wpAny_execs_nil (hq s.heap s.toks (fun b o _ _ z => z) F)
  | f :: fs, sts, l, s, ok, hf, hlen, X, hL, lb, sb, xb, lx, F, hq => by
    obtain ⟨p1, p2, p3, p4, r, rfl, ok'⟩ := ok
    obtain ⟨f1, f2, f3, f4⟩ := hf f (by simp)
    have ld : ∀ {y : Str} {v : Value} {pos : Pos} {Q' : Value → Shared → Prop}, fd.scope.names.lookup y = some .local → m y = some v → (y == ("__debug__" : Str)) = false → Q' v s → wpAny (model prog w) A (eval (.Name y pos) (callEnv fd L fI)) Q' E s :=
      fun {y v pos Q'} h1 h2 h3 q => wpAny_Name (wpAny_loadName_local T.kind h1 hL h2 q) h3
    refine wpAny_execs_cons (plainObj_wpAny_Assign_Attribute ?_)
    refine ld f1 f2 f4 (ld hself ms hd0 ?_)
    obtain ⟨hp, g, d, t, os⟩ := s
    have fin : ∀ (h' : Heap) (tk : Nat) (dx : Addr), base ≤ dx → (∀ b o, b ≠ x → b ≠ dx → hp.get? b = some o → h'.get? b = some o) → base ≤ h'.objs.size → K.In h' → FldAt h' base x C ((f, vs f) :: l) →
        wpAny (model prog w) A (execs r (callEnv fd L fI)) Q E ⟨h', g, d, tk, os⟩ := fun h' tk dx db k sz X' F' => by
      refine run_asgs T hself ms hd0 hnx kb Q fs r ((f, vs f) :: l) _ ok' (fun y hy => hf y (List.mem_cons_of_mem _ hy)) (by simp at hlen ⊢; omega) X' ?_ lb sz xb lx F' fun h2 tk2 k2 F2 => hq h2 tk2 (fun b o hb hlt z => k2 b o hb hlt (k b o hb (Nat.ne_of_lt (Nat.lt_of_lt_of_le hlt db)) z)) ?_
      · obtain ⟨o, es, ep, e, rr⟩ := hL
        exact ⟨o, es, ep, k _ _ lx (Nat.ne_of_lt (Nat.lt_of_lt_of_le lb db)) e, rr⟩
      · simpa using F2
    cases F with
    | @none t1 hx =>
      refine set_plain (ox := excObj C t1 none .none) (od := .none) X ⟨hx, rfl, rfl, trivial⟩ T.sa ?_
      refine st_first T X hx f3 fun h' tk' dx k dn dne hx' hn' => ?_
      show wpAny _ _ (execs _ _) _ _ _
      refine fin h' tk' dx (Nat.le_trans sb dn) (fun b o hb _ z => k b o hb z) ?_ (kin_but X hnx k) (.some hx' (Nat.le_trans sb dn) dne hn' (fun y => by rw [← lookup_if]; rfl) (by simp))
      exact Nat.le_of_lt (Nat.lt_of_le_of_lt (Nat.le_trans sb dn) hn'.lt)
    | @some t1 dx m0 l hx hb ne hn he hl =>
      have w0 := within_l l m0 he
      obtain ⟨oD, esD, epD, hoD, hdD, _⟩ := hn.count w0
      refine set_plain (ox := excObj C t1 (Option.some dx) .none) (od := Option.some oD) X ⟨hx, rfl, rfl, hoD⟩ T.sa ?_
      refine st_next T X hx hn w0 (by simp at hlen ⊢; omega) f3 fun h' tk' k hn' => ?_
      show wpAny _ _ (execs _ _) _ _ _
      have kdx : K.lookup dx = Option.none := by
        cases e : K.lookup dx with
        | none => rfl
        | some o => exact absurd (kb dx o e) (Nat.not_lt.mpr hb)
      exact fin h' tk' dx hb (fun b o _ hb2 z => k b o hb2 z) (Nat.le_of_lt (Nat.lt_of_le_of_lt hb hn'.lt)) (kin_but X kdx k) (.some (k _ _ (Ne.symm ne) hx) hb ne hn' (fun y => by rw [← lookup_if, he y]) (by simp))
end
end G

/-! X1: an own exception made. -/
namespace G
open PySem PySem.W PySem.Calls PyProof.Rows
open Builtin Builtin.ObjectAttr
theorem lookup_rev {f : Str} : ∀ (l : List (Str × Value)), (l.map (·.1)).Nodup → l.reverse.lookup f = l.lookup f
  | [], _ => rfl
  | (p, u) :: l, nd => by
    rw [List.map_cons, List.nodup_cons] at nd
    rw [List.reverse_cons, List.lookup_append, lookup_rev l nd.2]
    by_cases q : f = p
    · subst q
      have : l.lookup f = none := by
        cases e : l.lookup f with
        | none => rfl
        | some v =>
          exfalso
          apply nd.1
          clear nd
          induction l with
          | nil => cases e
          | cons a l ih =>
            obtain ⟨a1, a2⟩ := a
            by_cases z : f = a1
            · simp [z]
            · have z2 : (f == a1) = false := by simpa using z
              rw [List.lookup_cons, z2] at e
              exact List.mem_cons_of_mem _ (ih e)
      rw [this]
      simp
    · have q2 : (f == p) = false := by simpa using q
      rw [List.lookup_cons, List.lookup_cons, q2]
      simp
theorem zip_map : ∀ (ps : List Str) (us : List Value), ps.Nodup → ps.length = us.length → (ps.map fun f => (f, ((ps.zip us).lookup f).getD .none)) = ps.zip us
  | [], _, _, _ => rfl
  | p :: ps, [], _, h => by simp at h
  | p :: ps, u :: us, nd, h => by
    rw [List.nodup_cons] at nd
    have ih := zip_map ps us nd.2 (by simpa using h)
    simp only [List.map_cons, List.zip_cons_cons]
    refine List.cons_eq_cons.mpr ⟨by simp, ?_⟩
    refine (List.map_congr_left fun f hf => ?_).trans ih
    have q : f ≠ p := fun z => nd.1 (z ▸ hf)
    have q2 : (f == p) = false := by simpa using q
    rw [List.lookup_cons, q2]
theorem zip_some : ∀ (ps : List Str) (us : List Value) (f : Str), f ∈ ps → ps.length = us.length → ∃ v, (ps.zip us).lookup f = some v
  | p :: ps, [], _, _, h => by simp at h
  | p :: ps, u :: us, f, m, h => by
    by_cases q : f = p
    · exact ⟨u, by rw [q]; simp⟩
    · have q2 : (f == p) = false := by simpa using q
      obtain ⟨v, e⟩ := zip_some ps us f (by
        rcases List.mem_cons.mp m with z | z
        · exact absurd z q
        · exact z) (by simpa using h)
      exact ⟨v, by rw [List.zip_cons_cons, List.lookup_cons, q2]; exact e⟩
/-- the text of __init__: super().__init__(e), then the parameters stored, if they are -/
structure ErrB (K : W.Frag) (C : Addr) (fd : FuncData) (sl : Str) (ps : List Str) (store : Bool) : Prop where
  body : ∃ e p0 p1 p2 p3 p4 r, fd.body = .stmts (.Expr (.Call (.Attribute (.Call (.Name "super" p0) [] [] p1) "__init__" p2) [e] [] p3) p4 :: r) ∧ (p2.endLine == p3.line) = true ∧ AsgsOk sl (if store then ps else []) r ∧
    ((∃ z j p, e = .Constant (.str z) j p) ∨ ∃ y p, e = .Name y p ∧ y ∈ ps)
  nd : (sl :: ps).Nodup
  loc : ∀ y ∈ sl :: ps, fd.scope.names.lookup y = some .local ∧ (y == ("__debug__" : Str)) = false
  noat : store = true → ∀ y ∈ ps, findIn K (.ref C) y = some none
  par : ∃ ar, (fd.params.posonlyargs ++ fd.params.args).head? = some ar ∧ ar.arg = sl
  bind : ∀ (s : Shared) (us : List Value), us.length = ps.length + 1 → BindsTo s fd ⟨us, []⟩ ((sl :: ps).zip us)
  len : ps.length ≤ 100
section
variable {prog : Program} {w : World} {A : Around} {E : Value → Shared → Prop} {K : W.Frag} {mg mb : Str → Option Value} {C fI : Addr} {B newId initId : String} {bmB : List Value} {fd : FuncData} {cc cda : Addr} {sl : Str} {ps : List Str} {store : Bool} {R : Result → Shared → Prop}
theorem FldAt.mono {h : Heap} {b b' : Nat} {x C : Addr} {l : List (Str × Value)} (hb : b' ≤ b) (F : FldAt h b x C l) : FldAt h b' x C l := by
  cases F with
  | none hx => exact .none hx
  | some hx h1 ne hn he hl => exact .some hx (Nat.le_trans hb h1) ne hn he hl
theorem err_init (T : ErrT prog K C fI B newId initId bmB fd cc cda) (D : ErrB K C fd sl ps store) {s : Shared} {x t0 : Addr} {us : List Value} (X : K.In s.heap) (G0 : s.heap.Ns mainGlobals mg) (B0 : s.heap.Ns builtinsNs mb) (boot : ∀ y : Str, y ≠ "__name__" → mb y = bootBuiltins y) (hlim : s.heap.NoLimit)
    (hx : s.heap.get? x = some (excObj C t0 none .none)) (hnx : K.lookup x = none) (hroom : A.depth < recursionLimit) (hl : us.length = ps.length)
    (hq : ∀ h' tk, (∀ b o, b ≠ x → s.heap.get? b = some o → h'.get? b = some o) → FldAt h' s.heap.objs.size x C (if store then (ps.zip us).reverse else []) → R (.ok (.ret .none)) { s with heap := h', toks := tk }) :
    codeAny (model prog w) A (.call (.ref fI) ⟨.ref x :: us, []⟩) R s := by
  obtain ⟨oc, od, osl, hf⟩ := T.fn
  obtain ⟨e, p0, p1, p2, p3, p4, r, hbody, hln, has, hE⟩ := D.body
  obtain ⟨ar, hpar, harg⟩ := D.par
  have nd := List.nodup_cons.mp D.nd
  refine ks_codeAny_call_defAt (fd := fd) (binds := (sl :: ps).zip (.ref x :: us)) hroom (X _ _ hf) rfl hlim (codeRec_of X T.cin) hbody (D.bind s _ (by simp [hl])) T.cells (fun y hy => (D.loc y.1 (List.of_mem_zip hy).1).1) (fun h0 hns k0 => ?_) T.co T.gen T.kind
  have hxL : s.heap.objs.size ≠ x := Nat.ne_of_gt (Heap.lt_size hx)
  have keys : (((sl :: ps).zip (Value.ref x :: us)).map (·.1)).Nodup := by
    rw [List.map_fst_zip]
    · exact D.nd
    · simp [hl]
  have ms : (fun y => ((sl :: ps).zip (Value.ref x :: us)).reverse.lookup y) sl = some (.ref x) := by
    show List.lookup sl _ = _
    rw [lookup_rev _ keys]
    simp
  have mp : ∀ y ∈ ps, (fun y => ((sl :: ps).zip (Value.ref x :: us)).reverse.lookup y) y = some (((ps.zip us).lookup y).getD .none) := fun y hy => by
    show List.lookup y _ = _
    rw [lookup_rev _ keys]
    have q : y ≠ sl := fun z => nd.1 (z ▸ hy)
    have q2 : (y == sl) = false := by simpa using q
    rw [List.zip_cons_cons, List.lookup_cons, q2]
    obtain ⟨v, ev⟩ := zip_some ps us y hy hl.symm
    simp [ev]
  have X0 : K.In h0 := X.keeps k0
  have star : starEach [e] (callEnv fd s.heap.objs.size fI) = (false, eval e (callEnv fd s.heap.objs.size fI)) :: starEach [] (callEnv fd s.heap.objs.size fI) := by
    rcases hE with ⟨z, j, p, rfl⟩ | ⟨y, p, rfl, _⟩ <;> rfl
  have hv : ∀ {Q' : Value → Shared → Prop} {E' : Value → Shared → Prop} (s' : Shared), s'.heap.Ns s.heap.objs.size (fun y => ((sl :: ps).zip (Value.ref x :: us)).reverse.lookup y) → (∀ v tk, Q' v { s' with toks := tk }) → wpAny (model prog w) (A.deeper (callEnv fd s.heap.objs.size fI)) (eval e (callEnv fd s.heap.objs.size fI)) Q' E' s' := by
    intro Q' E' s' hn q
    rcases hE with ⟨z, j, p, rfl⟩ | ⟨y, p, rfl, hy⟩
    · exact Constant_str (q _ _)
    · exact wpAny_Name (wpAny_loadName_local T.kind (D.loc y (by simp [hy])).1 hn (mp y hy) (q _ _)) (D.loc y (by simp [hy])).2
  refine ks_wpAt_execs_cons ?_
  refine sup_stmt T (s := { s with heap := h0, toks := s.toks + ((sl :: ps).zip (Value.ref x :: us)).length }) X0 (G0.keeps k0) (B0.keeps k0) boot (k0 _ _ hx) hns hpar (by rw [harg]; exact (D.loc sl (by simp)).1) (by rw [harg]; exact ms) hln star hv fun h1 tk t1 k1 e1 => ?_
  refine wpAt_of_wpAny ?_
  have szL : s.heap.objs.size < h1.objs.size := by
    obtain ⟨o, _, _, e, _⟩ := hns
    exact Heap.lt_size (k1 _ _ hxL e)
  have kb : ∀ a o, K.lookup a = some o → a < s.heap.objs.size + 1 := fun a o e => Nat.lt_succ_of_lt (Heap.lt_size (X a o e))
  refine run_asgs T (vs := fun f => ((ps.zip us).lookup f).getD .none) (D.loc sl (by simp)).1 ms (D.loc sl (by simp)).2 hnx kb _ (if store then ps else []) r [] { s with heap := h1, toks := tk } has (fun f hf => ?_) (by
      have := D.len
      cases store <;> simp <;> omega) (kin_but X0 hnx k1) (ns_but hns hxL k1) (Nat.lt_succ_self _) szL (Nat.lt_succ_of_lt (Heap.lt_size hx)) hxL (.none e1) fun h2 tk2 k2 F2 => ?_
  · cases store with
    | false => simp at hf
    | true =>
      have hf' : f ∈ ps := by simpa using hf
      exact ⟨(D.loc f (by simp [hf'])).1, mp f hf', D.noat rfl f hf', (D.loc f (by simp [hf'])).2⟩
  · refine hq h2 tk2 (fun b o hb z => k2 b o hb (Nat.lt_succ_of_lt (Heap.lt_size z)) (k1 b o hb (k0 b o z))) ?_
    have F3 := F2.mono (Nat.le_succ s.heap.objs.size)
    cases store with
    | false => simpa using F3
    | true =>
      rw [if_pos rfl] at F3 ⊢
      rw [zip_map ps us nd.2 hl.symm, List.append_nil] at F3
      exact F3
end
end G

/-! X2: an own exception made, as a rule. -/
namespace G
open PySem PySem.W PySem.Calls PyProof.Rows
section
variable {prog : Program} {w : World} {A : Around} {E : Value → Shared → Prop} {K : W.Frag} {mg mb : Str → Option Value} {C fI : Addr} {B newId initId : String} {bmB : List Value} {fd : FuncData} {cc cda : Addr} {sl : Str} {ps : List Str} {store : Bool} {R : Result → Shared → Prop}
theorem err_made (T : ErrT prog K C fI B newId initId bmB fd cc cda) (D : ErrB K C fd sl ps store) {s : Shared} {us : List Value} (X : K.In s.heap) (G0 : s.heap.Ns mainGlobals mg) (B0 : s.heap.Ns builtinsNs mb) (boot : ∀ y : Str, y ≠ "__name__" → mb y = bootBuiltins y) (hlim : s.heap.NoLimit)
    (hroom : A.depth + 1 < recursionLimit) (hl : us.length = ps.length)
    (hq : ∀ h' tk e, (∀ b o, s.heap.get? b = some o → h'.get? b = some o) → s.heap.objs.size ≤ e → FldAt h' s.heap.objs.size e C (if store then (ps.zip us).reverse else []) → R (.ok (.ret (.ref e))) { s with heap := h', toks := tk }) :
    codeAny (model prog w) A (.call (.ref C) ⟨us, []⟩) R s := by
  obtain ⟨nm, N', qn, bs, bm, hdct, sn, sub, ab, col, dd, k0, k1, k2, k3, k5, hC, hT⟩ := excInit_of X T.ini
  obtain ⟨hp, g, dr, tk, os⟩ := s
  have k : ∀ b o, hp.get? b = some o → ((hp.push (kdv_tup us)).push (HandSPX.excO C hp.objs.size)).get? b = some o := fun b o e => Heap.get?_push_of_some _ (Heap.get?_push_of_some _ e)
  have hget : ((hp.push (kdv_tup us)).push (HandSPX.excO C hp.objs.size)).get? (hp.objs.size + 1) = some (HandSPX.excO C hp.objs.size) := by heap_get
  have hnx : K.lookup (hp.objs.size + 1) = none := kin_fresh X (Nat.le_succ _)
  have hus : us.length ≤ sizeLine := by
    have := D.len
    rw [sizeLine_eq]
    omega
  refine HandSPX.call_own T.eb hT hC (looks_findIn X T.iC) (fun self => bind_fn X self T.tI) hus ?_
  refine err_init (s := ⟨(hp.push (kdv_tup us)).push (HandSPX.excO C hp.objs.size), g, dr, tk, os⟩) T D (X.keeps k) (G0.keeps k) (B0.keeps k) boot (hlim.keeps k) hget hnx ?_ hl fun h' tk' k' F => ?_
  · show A.depth + 1 < recursionLimit
    exact hroom
  · refine ⟨rfl, hq h' tk' (hp.objs.size + 1) (fun b o e => k' b o (Nat.ne_of_lt (Nat.lt_succ_of_lt (Heap.lt_size e))) (k b o e)) (Nat.le_succ _) (F.mono ?_)⟩
    show hp.objs.size ≤ ((hp.push (kdv_tup us)).push (HandSPX.excO C hp.objs.size)).objs.size
    rw [Heap.size_push, Heap.size_push]
    exact Nat.le_trans (Nat.le_succ _) (Nat.le_succ _)
end
end G
namespace G
open PySem PySem.Spec L2
open PyProof.Rows hiding St
/-- C(e, ..): the fields told -/
def tMk (C : Addr) (ps : List Str) (store : Bool) (ta : TA) : St → AHp → XK → Prop := fun σ H Q => ta σ H fun vs H1 => vs.length = ps.length ∧ (store = false → Q (.ref C) none H1) ∧ (store = true → ∀ d, H1 d = none → Q (.ref C) (some d) (upd H1 d (.xd (ps.zip vs).reverse)))
theorem relO_zip : ∀ (ps : List Str) (vs : List V) (us : List Value), Vals vs us → ∀ f, RelO ((ps.zip vs).lookup f) ((ps.zip us).lookup f)
  | [], vs, us, _, f => True.intro
  | p :: ps, [], us, r, f => by cases r; exact True.intro
  | p :: ps, v :: vs, us, r, f => by
    cases r with
    | cons rv rn =>
      rename_i u us'
      simp only [List.zip_cons_cons, List.lookup_cons]
      by_cases q : f = p
      · rw [show (f == p) = true by simpa using q]
        exact rv
      · rw [show (f == p) = false by simpa using q]
        exact relO_zip ps vs us' rn f
theorem zlook_rev {α : Type} {f : Str} : ∀ (l : List (Str × α)), (l.map (·.1)).Nodup → l.reverse.lookup f = l.lookup f
  | [], _ => rfl
  | (p, u) :: l, nd => by
    rw [List.map_cons, List.nodup_cons] at nd
    rw [List.reverse_cons, List.lookup_append, zlook_rev l nd.2]
    by_cases q : f = p
    · subst q
      have : l.lookup f = none := by
        cases e : l.lookup f with
        | none => rfl
        | some v =>
          exfalso
          apply nd.1
          clear nd
          induction l with
          | nil => cases e
          | cons a l ih =>
            obtain ⟨a1, a2⟩ := a
            by_cases z : f = a1
            · simp [z]
            · have z2 : (f == a1) = false := by simpa using z
              rw [List.lookup_cons, z2] at e
              exact List.mem_cons_of_mem _ (ih e)
      rw [this]
      simp
    · have q2 : (f == p) = false := by simpa using q
      rw [List.lookup_cons, List.lookup_cons, q2]
      simp
theorem pmk_err {X : Cx} {C fI : Addr} {B newId initId : String} {bmB : List Value} {fd : FuncData} {cc cda : Addr} {sl : Str} {ps : List Str} {store : Bool} {x : Str} {e : Expr} {es : List Expr} {ta : TA} {p pos : Pos} {k : Nat}
    (T : ErrT X.prog X.K C fI B newId initId bmB fd cc cda) (D : ErrB X.K C fd sl ps store) (hp : ps ≠ []) (hr : Room k X.A) (ha : PA X (e :: es) ta) (hg : Gl X x) (hm : X.mg x = some (.ref C)) (hdb : (x == ("__debug__" : Str)) = false)
    (he : starEach (e :: es) X.env = (false, eval e X.env) :: starEach es X.env) (hpl : (backTo pos (starEach es X.env)).any (·.1) = false) :
    PMk X (.Call (.Name x p) (e :: es) [] pos) (tMk C ps store ta) := by
  intro pins s σ H Q I h
  refine wpAny_Call_Name_kw (ld_glob I hg hm ?_ hdb)
  refine PySem.W.callWith_K (h₀ := X.base) I.ok.mod.kin T.kC (thn (ha.run pos pins s σ H _ I h) fun us s1 hh => ?_) he hpl
  obtain ⟨vs, H1, I1, r1, hlen, q0, q1⟩ := hh
  refine ⟨I1.kIn, ?_⟩
  show wpAny _ _ (call (.ref C) us) _ _ _
  have hl : us.length = ps.length := by rw [← hlen]; exact (Paired.length r1).symm
  have hlim := I1.nolimit
  obtain ⟨mb, hb, hbo⟩ := I1.ok.mod.blt
  have keepB := I1.bk
  have gN : s1.heap.Ns mainGlobals X.mg := I1.ok.mod.glob.keeps keepB
  obtain ⟨hp0, g, dr, tk, os⟩ := s1
  refine wpAny_call (err_made T D I1.kIn gN (hb.keeps keepB) hbo hlim (by have := hr.dp; omega) hl fun h' tk' e k hnew F => ?_)
  show MkP X pins σ Q (.ref e) ⟨h', g, dr, tk', os⟩
  obtain ⟨G', g1, g2⟩ := restrict h' fun b => decide (b ≠ e)
  have gk : ∀ b, b ≠ e → G'.get? b = h'.get? b := fun b hb => g1 b (decide_eq_true hb)
  have ge : G'.get? e = none := g2 e (by simp)
  have old : ∀ b o, hp0.get? b = some o → G'.get? b = some o := fun b o q => (gk b (Nat.ne_of_lt (Nat.lt_of_lt_of_le (Heap.lt_size q) hnew))).trans (k b o q)
  have back : ∀ b o, G'.get? b = some o → h'.get? b = some o := fun b o q => by
    by_cases hb : b = e
    · rw [hb, ge] at q; cases q
    · exact (gk b hb).symm.trans q
  have hnd := (List.nodup_cons.mp D.nd).2
  have rs := raises_own (X := X) T.exC T.tyC
  have fin0 : ∀ t1, h'.get? e = Option.some (PySem.W.excObj C t1 Option.none .none) → store = false → MkP X pins σ Q (.ref e) ⟨h', g, dr, tk', os⟩ := fun t1 hx hs =>
    ⟨e, _, _, ⟨G', g, dr, tk', os⟩, H1, .ref C, Option.none, rfl, I1.kept (t' := tk') old, back, ge, hx, ⟨rfl, rfl⟩, rfl, rfl, I1.hok.fresh hnew, rfl, I1.bare, rs, q0 hs⟩
  generalize hL : (if store = true then (ps.zip us).reverse else []) = L at F
  cases F with
  | @none t1 hx =>
    cases store with
    | false => exact fin0 t1 hx rfl
    | true =>
      rw [if_pos rfl] at hL
      have z : (ps.zip us).length = 0 := by rw [← List.length_reverse, hL]; rfl
      rw [List.length_zip, hl, Nat.min_self] at z
      exact absurd (List.length_eq_zero_iff.mp z) hp
  | @some t1 dx m0 _ hx hb ne hn hm0 hl0 =>
    cases store with
    | false => rw [if_neg (by decide)] at hL; exact absurd hL.symm hl0
    | true =>
      rw [if_pos rfl] at hL
      subst hL
      have ob : ObjOk X.prog X.w (upd H1 dx (.xd (ps.zip vs).reverse)) G' dx (.xd (ps.zip vs).reverse) := by
        refine ⟨m0, hn.at (fun o q => (gk dx ne).trans q), fun f => ?_⟩
        rw [hm0 f, zlook_rev _ (by rw [List.map_fst_zip (by omega)]; exact hnd), zlook_rev _ (by rw [List.map_fst_zip (by omega)]; exact hnd)]
        exact relO_zip ps vs us r1 f
      have J : Inv X pins σ (upd H1 dx (.xd (ps.zip vs).reverse)) ⟨G', g, dr, tk', os⟩ := I1.laid (t' := tk') old hb ob
      refine ⟨e, _, _, ⟨G', g, dr, tk', os⟩, _, .ref C, Option.some dx, rfl, J, back, ge, hx, ⟨rfl, rfl⟩, rfl, rfl, ?_, rfl, I1.bare, rs, q1 rfl dx (I1.hok.fresh hb)⟩
      rw [upd_ne (Ne.symm ne)]
      exact I1.hok.fresh hnew
end G

/-! G18: does a text of the small language tell what a text of the program says? -/
namespace G
open PySem PySem.Spec L2
/-- what is known of a program's names -/
structure Cfg where
  fns : List (Nat × Str × Nat)
  glbs : List (Nat × Str × D)
  fr : List Str
  cls : List (Nat × Str × List Str × Bool)
/-- a place in the text: the slots' names, the scope, which names a store may find -/
structure Pl where
  N : List Str
  sc : Scope
  fn : Str → Bool
def Pl.vis (p : Pl) (x : Str) : Bool := match p.sc.names.lookup x with
  | some .local => true
  | some .cell => true
  | some .free => true
  | _ => false
def Pl.loc (p : Pl) (x : Str) : Bool := match p.sc.names.lookup x with
  | some .local => true
  | some .cell => true
  | _ => false
def Pl.gl (p : Pl) (x : Str) : Bool := match p.sc.names.lookup x with
  | some .globalImplicit => true
  | _ => false
def Pl.sto (p : Pl) (x : Str) : Bool := p.fn x || match p.sc.names.lookup x with
  | some .local => true
  | _ => false
def okName (x : Str) : Bool := !(x == ("__debug__" : Str)) && !(x == ("__classdict__" : Str)) && !(x == ("__name__" : Str))
def Pl.blk (p : Pl) (scope : Scope) : Pl := ⟨p.N, relS scope p.sc, fun x => scope.names.lookup x == some .cell⟩
def noStar : Expr → Bool
  | .Starred _ _ => false
  | _ => true
def noSet : Expr → Bool
  | .Set _ _ _ => false
  | _ => true
def noSlice : Expr → Bool
  | .Slice _ _ _ _ => false
  | _ => true
def noComp : Expr → Bool
  | .ListComp _ _ _ _ => false
  | .SetComp _ _ _ _ => false
  | .DictComp _ _ _ _ _ => false
  | _ => true
/-- its truth is that of its value -/
def plainP : Expr → Bool
  | .UnaryOp .Not _ _ => false
  | .BoolOp _ _ _ => false
  | .IfExp _ _ _ _ => false
  | .Compare _ _ _ _ => false
  | _ => true
def bopM : Bop → Operator → Bool
  | .add, .Add => true
  | .sub, .Sub => true
  | .mul, .Mult => true
  | .fdiv, .FloorDiv => true
  | .mod, .Mod => true
  | .pow, .Pow => true
  | _, _ => false
def augM : Bop → Operator → Bool
  | .add, .Add => true
  | .sub, .Sub => true
  | .mul, .Mult => true
  | _, _ => false
def copM : Cop → CmpOp → Bool
  | .eq, .Eq => true
  | .ne, .NotEq => true
  | .lt, .Lt => true
  | .le, .LtE => true
  | .gt, .Gt => true
  | .ge, .GtE => true
  | .is, .Is => true
  | .isn, .IsNot => true
  | .in_, .In => true
  | .nin, .NotIn => true
  | .inD, .In => true
  | _, _ => false
def B1.nm : B1 → Str
  | .len => "len" | .int => "int" | .abs => "abs" | .sum => "sum" | .all => "all" | .any => "any" | .ord => "ord" | .str => "str" | .repr => "repr" | .tuple => "tuple" | .list => "list" | .sorted => "sorted" | .min => "min" | .max => "max" | .dict => "?"
def B1.ok : B1 → Bool
  | .dict => false
  | _ => true
def isBoolP : Expr → Bool
  | .BoolOp _ _ _ => true
  | _ => false
def B2.nm : B2 → Str
  | .min => "min" | .max => "max"
def Ty.nm : Ty → Str
  | .int => "int" | .bool => "bool" | .str => "str" | .tuple => "tuple" | .list => "list" | .dict => "dict"
/-- names and their slots -/
def namesM (p : Pl) : List Nat → List Expr → Bool
  | [], [] => true
  | i :: is, .Name x _ :: es => decide (p.N[i]? = some x) && p.loc x && p.sto x && namesM p is es
  | _, _ => false
def tgM (p : Pl) : Tg → Expr → Bool
  | .one i, .Name x _ => decide (p.N[i]? = some x) && p.loc x && p.sto x
  | .many is, .Tuple es _ _ => namesM p is es
  | _, _ => false
def keysM : List (List Nat) → List (Option Expr) → Bool
  | [], [] => true
  | k :: ks, some (.Constant (.str x) _ _) :: r => decide (x = tx k) && keysM ks r
  | _, _ => false
def blkM (p : Pl) (scope : Scope) (own : List Nat) : Bool :=
  scope.kind == .function && scope.names.all (fun y => scope.names.lookup y.1 == some y.2) && own.all (fun i => (p.N[i]?).isSome)
  && scope.names.all (fun y => !(y.2 == .free) || (p.sc.names.lookup y.1 == some .cell || p.sc.names.lookup y.1 == some .free))
  && scope.names.all (fun y => !(y.2 == .local || y.2 == .cell) || (own.any (fun i => p.N[i]? == some y.1) || !(p.N.contains y.1)))
/-- pairs are unpacked -/
def itTg : It → Expr → Bool
  | .enu _, .Tuple _ _ _ => true
  | .zip _ _, .Tuple _ _ _ => true
  | .enu _, _ => false
  | .zip _ _, _ => false
  | _, _ => true
variable (c : Cfg)
def blt (p : Pl) (x y : Str) : Bool := decide (x = y) && p.gl y && c.fr.contains y
mutual
/-- t: as a test -/
def mE : E → (t : Bool) → Pl → Expr → Bool
  | .c d, t, p, pe => match pe with
    | .Constant k _ _ => match d, k with
      | .non, .none => true
      | .bl b, .bool b' => b == b'
      | .int i, .int j => decide (i = j)
      | .str s, .str x => decide (x = tx s)
      | _, _ => false
    | _ => false
  | .var i, t, p, pe => match pe with
    | .Name x _ => decide (p.N[i]? = some x) && p.vis x && okName x
    | _ => false
  | .glb i d, t, p, pe => match pe with
    | .Name x _ => p.gl x && okName x && (match c.glbs.lookup i with | some q => decide (q.1 = x) && D.beq q.2 d | none => false)
    | _ => false
  | .neg a, t, p, pe => match pe with
    | .UnaryOp .USub pa _ => mE a false p pa
    | _ => false
  | .not a, t, p, pe => match pe with
    | .UnaryOp .Not pa _ => match t with
      | true => mE a true p pa
      | false => mE a false p pa && a.plainT
    | _ => false
  | .bin o a b, t, p, pe => match pe with
    | .BinOp pa op pb _ => bopM o op && mE a false p pa && mE b false p pb
    | _ => false
  | .cmp o a b, t, p, pe => match pe with
    | .Compare pa [op] [pb] _ => copM o op && mE a false p pa && mE b false p pb && !(behindInMarks op pb)
    | _ => false
  | .ch3 o o' o'' a b d e, t, p, pe => match pe with
    | .Compare pa [op, op', op''] [pb, pc, pd] _ => !t && copM o op && copM o' op' && copM o'' op'' && mE a false p pa && mE b false p pb && mE d false p pc && mE e false p pd && !(lastMarks [op, op', op''] [pb, pc, pd])
    | _ => false
  | .ch o o' a b d, t, p, pe => match pe with
    | .Compare pa [op, op'] [pb, pc] _ => copM o op && copM o' op' && mE a false p pa && mE b false p pb && mE d false p pc && !(lastMarks [op, op'] [pb, pc])
    | _ => false
  | .and a b, t, p, pe => match pe with
    | .BoolOp .And (pa :: pb :: rest) pos => mE a t p pa && (match rest with | [] => mE b t p pb | r :: rs => mE b t p (.BoolOp .And (pb :: r :: rs) pos))
    | _ => false
  | .or a b, t, p, pe => match pe with
    | .BoolOp .Or (pa :: pb :: rest) pos => mE a t p pa && (match rest with | [] => mE b t p pb | r :: rs => mE b t p (.BoolOp .Or (pb :: r :: rs) pos))
    | _ => false
  | .ife tt a b, t, p, pe => match pe with
    | .IfExp pt pa pb _ => !t && mE tt true p pt && mE a false p pa && mE b false p pb
    | _ => false
  | .tup es, t, p, pe => match pe with
    | .Tuple pes _ _ => mEs es p pes
    | _ => false
  | .lst es, t, p, pe => match pe with
    | .List pes _ => mEs es p pes
    | _ => false
  | .dk ks es, t, p, pe => match pe with
    | .Dict pk pv _ => keysM ks pk && mEs es p pv && decide (ks.length = es.len) && decide (ks.length ≤ 15) && !ks.isEmpty
    | _ => false
  | .dk0, t, p, pe => match pe with
    | .Dict [] [] _ => true
    | _ => false
  | .dt, t, p, pe => match pe with
    | .Dict [] [] _ => true
    | _ => false
  | .idx a i, t, p, pe => match pe with
    | .Subscript pa pi _ => mE a false p pa && mE i false p pi && noSlice pi
    | _ => false
  | .slc a lo hi, t, p, pe => match pe with
    | .Subscript pa (.Slice plo phi none _) _ => mE a false p pa && mO lo p plo && mO hi p phi
    | _ => false
  | .rev a, t, p, pe => match pe with
    | .Subscript pa (.Slice none none (some (.UnaryOp .USub (.Constant (.int 1) _ _) _)) _) _ => mE a false p pa
    | _ => false
  | .rev2 a, t, p, pe => match pe with
    | .Subscript pa (.Slice (some (.UnaryOp .USub (.Constant (.int 2) _ _) _)) none (some (.UnaryOp .USub (.Constant (.int 1) _ _) _)) _) _ => mE a false p pa
    | _ => false
  | .call f es, t, p, pe => match pe with
    | .Call (.Name x _) pes [] _ => p.gl x && okName x && mEs es p pes && (match c.fns.lookup f with | some q => decide (q.1 = x) && decide (q.2 = es.len) | none => false)
    | _ => false
  | .b1 b a, t, p, pe => match pe with
    | .Call (.Name x _) [pa] [] _ => blt c p x b.nm && mE a false p pa && noStar pa && b.ok
    | _ => false
  | .b2 b a d, t, p, pe => match pe with
    | .Call (.Name x _) [pa, pb] [] _ => blt c p x b.nm && mE a false p pa && mE d false p pb && noStar pa && noStar pb
    | _ => false
  | .isi a ty, t, p, pe => match pe with
    | .Call (.Name x _) [pa, .Name y _] [] _ => blt c p x "isinstance" && blt c p y ty.nm && mE a false p pa && noStar pa
    | _ => false
  | .mt m o es, t, p, pe => match m with
    | .append => match pe with
      | .Call (.Attribute po x apos) [pa] [] pos => decide (x = "append") && mE o false p po && mEs es p [pa] && plainBase po && (apos.endLine == pos.line)
      | _ => false
    | .extend => match pe with
      | .Call (.Attribute po x apos) [pa] [] pos => decide (x = "extend") && mE o false p po && mEs es p [pa] && plainBase po && (apos.endLine == pos.line)
      | _ => false
    | .join => match pe with
      | .Call (.Attribute po x apos) [pa] [] pos => decide (x = "join") && mE o false p po && mEs es p [pa] && plainBase po && (apos.endLine == pos.line)
      | _ => false
    | .index => match pe with
      | .Call (.Attribute po x apos) [pa] [] pos => decide (x = "index") && mE o false p po && mEs es p [pa] && plainBase po && (apos.endLine == pos.line)
      | _ => false
    | .indexL => match pe with
      | .Call (.Attribute po x apos) [pa] [] pos => decide (x = "index") && mE o false p po && mEs es p [pa] && plainBase po && (apos.endLine == pos.line)
      | _ => false
    | .pop => match pe with
      | .Call (.Attribute po x apos) [] [] pos => decide (x = "pop") && mE o false p po && mEs es p [] && plainBase po && (apos.endLine == pos.line)
      | _ => false
    | .get2 => match pe with
      | .Call (.Attribute po x apos) [pa, pb] [] pos => decide (x = "get") && mE o false p po && mEs es p [pa, pb] && plainBase po && (apos.endLine == pos.line)
      | _ => false
    | _ => false
  | .lc own tg it cs elt, t, p, pe => match pe with
    | .ListComp pelt [⟨ptg, pit, ifs, 0⟩] scope _ => blkM p scope own && mI it p pit && itTg it ptg && noSet pit && tgM (p.blk scope) tg ptg && tg.slots.all (fun i => own.contains i) && mCs cs (p.blk scope) ifs && mE elt false (p.blk scope) pelt
    | _ => false
  | .lenS own tg it elt, t, p, pe => match pe with
    | .Call (.Name x _) [.SetComp pelt [⟨ptg, pit, [], 0⟩] scope _] [] _ => blt c p x "len" && blkM p scope own && mI it p pit && itTg it ptg && noSet pit && tgM (p.blk scope) tg ptg && tg.slots.all (fun i => own.contains i) && mE elt false (p.blk scope) pelt
    | _ => false
  | .lc2 _ _ _ _ _ _, _, _, _ => false
  | .opq, _, _, _ => true
def mEs : Es → Pl → List Expr → Bool
  | .nil, p, pes => pes.isEmpty
  | .cons e es, p, pes => match pes with
    | pe :: r => mE e false p pe && noStar pe && mEs es p r
    | [] => false
/-- a comprehension's tests -/
def mCs : Es → Pl → List Expr → Bool
  | .nil, p, pes => pes.isEmpty
  | .cons e es, p, pes => match pes with
    | [pe] => mE e true p pe && (match es with | .nil => true | .cons _ _ => false)
    | _ => false
def mO : Oe → Pl → Option Expr → Bool
  | .none, p, pe => pe.isNone
  | .some e, p, pe => match pe with
    | some pe => mE e false p pe
    | none => false
def mI : It → Pl → Expr → Bool
  | .seq e, p, pe => mE e false p pe
  | .r1 a, p, pe => match pe with
    | .Call (.Name x _) [pa] [] _ => blt c p x "range" && mE a false p pa && noStar pa
    | _ => false
  | .r2 a b, p, pe => match pe with
    | .Call (.Name x _) [pa, pb] [] _ => blt c p x "range" && mE a false p pa && mE b false p pb && noStar pa && noStar pb
    | _ => false
  | .r3 a b d, p, pe => match pe with
    | .Call (.Name x _) [pa, pb, pc] [] _ => blt c p x "range" && mE a false p pa && mE b false p pb && mE d false p pc && noStar pa && noStar pb && noStar pc
    | _ => false
  | .enu a, p, pe => match pe with
    | .Call (.Name x _) [pa] [] _ => blt c p x "enumerate" && mE a false p pa && noStar pa
    | _ => false
  | .zip a b, p, pe => match pe with
    | .Call (.Name x _) [pa, pb] [] _ => blt c p x "zip" && mE a false p pa && mE b false p pb && noStar pa && noStar pb
    | _ => false
end
/-- which names an assignment of a tuple stores from the right -/
def sw1 (sc : Scope) (ts vs : List Expr) : Bool := !(ts.length == 2 || ts.length == 3) || vs.length != ts.length || (if sc.kind.isAnnotationScope then ScopeKind.function else sc.kind) != .function
def sw2 (vs : List Expr) : Bool := vs.any fun
  | .Starred .. => true
  | _ => false
def swNm (sc : Scope) (ts : List Expr) : List Str := ts.filterMap fun
  | .Name id pos => if sc.names.lookup id == some .local && pos.line == (ts.head?.map (·.pos.line)).getD 0 then some id else none
  | _ => none
def sw3 (sc : Scope) (ts : List Expr) : Bool := (swNm sc ts).length != ts.length || (swNm sc ts).eraseDups.length != (swNm sc ts).length
def swN (sc : Scope) (ts vs : List Expr) : Option (Option (List Str)) := match sw1 sc ts vs with
  | true => some none
  | false => match sw2 vs with
    | true => some none
    | false => match sw3 sc ts with
      | true => some none
      | false => match vs.all (foldedForSure 8) with
        | true => some none
        | false => match vs.all (constantsAlone 8) with
          | true => none
          | false => some (some (swNm sc ts))
/-- x = [..]: is the name stored ahead of the comprehension's end? -/
def swC (p : Pl) (y : Str) (py : Pos) (pe : Expr) : Option Bool := match pe with
  | .ListComp _ _ scope pos => if p.sc.kind == .function && p.sc.names.lookup y == some .local && (py.line == pos.line) && !(scope.names.any fun (n, k) => n == y && (k == .local || k == .cell)) then some true else none
  | .SetComp _ _ _ _ => none
  | .DictComp _ _ _ _ _ => none
  | _ => some false
def isLc : E → Bool
  | .lc _ _ _ _ _ => true
  | _ => false
def tupM (p : Pl) (is : List Nat) (ts : List Expr) (pe : Expr) (e : E) : Bool := match pe with
  | .Tuple vs _ _ => match swN p.sc ts vs with
    | some none => true
    | some (some names) => match e, is with
      | .tup (.cons _ (.cons _ .nil)), [i, j] => decide (i ≠ j) && decide (names.length = 2) && names.all (fun x => p.sc.names.lookup x == some .local)
      | .tup (.cons _ (.cons _ (.cons _ .nil))), [i, j, l] => decide (i ≠ j) && decide (i ≠ l) && decide (j ≠ l) && decide (names.length = 3) && names.all (fun x => p.sc.names.lookup x == some .local)
      | _, _ => false
    | none => false
  | _ => true
/-- the suites of except clauses -/
def mHX (p : Pl) (fs : List Str) (nm : Option Nat) : HX → Expr → Bool
  | .c d, pe => match pe with
    | .Constant k _ _ => match d, k with
      | .non, .none => true
      | .bl b, .bool b' => b == b'
      | .int i, .int j => decide (i = j)
      | .str s, .str x => decide (x = tx s)
      | _, _ => false
    | _ => false
  | .fld k, pe => match pe, nm with
    | .Attribute (.Name e _) f _, some i => decide (p.N[i]? = some e) && p.vis e && okName e && decide (fs[k]? = some f)
    | _, _ => false
def mHXs (p : Pl) (fs : List Str) (nm : Option Nat) : List HX → List Expr → Bool
  | [], pes => pes.isEmpty
  | x :: xs, pes => match pes with
    | pe :: r => mHX p fs nm x pe && noStar pe && mHXs p fs nm xs r
    | [] => false
def mHE (p : Pl) (fs : List Str) (nm : Option Nat) : HE → Expr → Bool
  | .one x, pe => mHX p fs nm x pe
  | .tup xs, pe => match pe with
    | .Tuple pes _ _ => mHXs p fs nm xs pes && decide (xs.length ≤ 1000)
    | _ => false
def mH (p : Pl) (h : Hd) (fs : List Str) : ExceptHandler → Bool
  | .ExceptHandler (some (.Name x _)) nm [.Assign [.Name y _] pe _] _ =>
    (match h.nm, nm with
      | none, none => true
      | some i, some n => decide (p.N[i]? = some n) && decide (p.sc.names.lookup n = some .local)
      | _, _ => false) &&
    p.gl x && okName x && decide (p.N[h.slot]? = some y) && decide (p.sc.names.lookup y = some .local) && decide (h.nm ≠ some h.slot) && mHE p fs h.nm h.e pe && noComp pe
  | _ => false
def hdX : ExceptHandler → Option Str
  | .ExceptHandler (some (.Name x _)) _ _ _ => some x
  | _ => none
def mHs (p : Pl) : List Hd → List ExceptHandler → Bool
  | [], phs => phs.isEmpty
  | h :: hs, phs => match phs with
    | ph :: r => (match c.cls.lookup h.cls with
      | some q => decide (hdX ph = some q.1) && mH p h (if q.2.2 then q.2.1 else []) ph
      | none => false) && mHs p hs r
    | [] => false
mutual
def mS : S → Pl → Stmt → Bool
  | .asg i e, p, st => match st with
    | .Assign [.Name x py] pe _ => decide (p.N[i]? = some x) && p.loc x && p.sto x && mE c e false p pe && (match swC p x py pe with | some false => true | none => false | some true => isLc e)
    | _ => false
  | .asgT is e, p, st => match st with
    | .Assign [.Tuple ts _ _] pe _ => namesM p is ts && mE c e false p pe && noComp pe && tupM p is ts pe e
    | _ => false
  | .set o i e, p, st => match st with
    | .Assign [.Subscript po pi _] pe _ => mE c o false p po && mE c i false p pi && noSlice pi && mE c e false p pe
    | _ => false
  | .aug i o e, p, st => match st with
    | .AugAssign (.Name x _) op pe _ => decide (p.N[i]? = some x) && p.loc x && p.sto x && augM o op && mE c e false p pe
    | _ => false
  | .ex e, p, st => match st with
    | .Expr pe _ => mE c e false p pe && noComp pe
    | _ => false
  | .ife t a b, p, st => match st with
    | .If pt pa pb _ => mE c t true p pt && mSs a p pa && mSs b p pb
    | _ => false
  | .for_ tg it b, p, st => match st with
    | .For ptg pit pb [] _ => tgM p tg ptg && mI c it p pit && itTg it ptg && noSet pit && mSs b p pb
    | _ => false
  | .whl t b, p, st => match st with
    | .While pt pb [] _ => mE c t true p pt && mSs b p pb
    | _ => false
  | .ret e, p, st => match st with
    | .Return (some pe) _ => mE c e false p pe
    | _ => false
  | .retN, p, st => match st with
    | .Return none _ => true
    | _ => false
  | .brk, p, st => match st with
    | .Break _ => true
    | _ => false
  | .cnt, p, st => match st with
    | .Continue _ => true
    | _ => false
  | .pass, p, st => match st with
    | .Pass _ => true
    | _ => false
  | .rse j es, p, st => match st with
    | .Raise (some (.Call (.Name x _) pes [] _)) none _ => p.gl x && okName x && mEs c es p pes && !pes.isEmpty && (match c.cls.lookup j with | some q => decide (q.1 = x) && decide (q.2.1.length = es.len) | none => false)
    | _ => false
  | .try_ b hs, p, st => match st with
    | .Try pb ph [] [] _ => !hs.isEmpty && mSs b p pb && mHs c p hs ph
    | _ => false
  | .opq, p, st => true
def mSs : Ss → Pl → List Stmt → Bool
  | .nil, p, sts => sts.isEmpty
  | .cons s ss, p, sts => match sts with
    | st :: r => mS s p st && mSs ss p r
    | [] => false
end
end G

/-! G19: what fits is walked. -/
namespace G
open PySem PySem.Spec L2
/-- a class of errors as the written part has it -/
structure ClsOk (prog : Program) (K : Frag) (mg : Str → Option Value) (Γ : Gam) (i : Nat) (x : Str) (ps : List Str) (st : Bool) : Prop where
  ex : ∃ C fI B newId initId bmB fd cc cda sl, Γ i = some (C, if st then ps else []) ∧ mg x = some (.ref C) ∧ ErrT prog K C fI B newId initId bmB fd cc cda ∧ ErrB K C fd sl ps st ∧ XfC K C
structure Fits (c : Cfg) (C : Nat → List D → Hp → R Rv) (Γ : Gam) (k : Nat) (p : Pl) (X : Cx) : Prop where
  N : X.N = p.N
  sc : X.env.scope = p.sc
  fn : X.fn = p.fn
  nd : p.N.Nodup
  calm : X.calm = true
  gd : X.A.guards = some []
  room : Room k X.A
  call : ∀ (f : Nat) (x : Str) (np : Nat), c.fns.lookup f = some (x, np) → ∃ fa fd ps, FnG X.prog X.w X.K X.mg X.base (CX X.prog X.w) k fa fd ps (spC C Γ X.K f np) ∧ X.mg x = some (.ref fa) ∧ PySem.W.keepIn X.K (.ref fa) = true ∧ Binds X.K fd ps []
  glb : ∀ (i : Nat) (x : Str) (d : D), c.glbs.lookup i = some (x, d) → GlbOk X.K X.mg x d
  free : ∀ x, x ∈ c.fr → X.mg x = none
  cls : ∀ (i : Nat) (x : Str) (ps : List Str) (st : Bool), c.cls.lookup i = some (x, ps, st) → ClsOk X.prog X.K X.mg Γ i x ps st
  exm : ∀ (i j : Nat) (Ci Cj : Addr) (fi fj : List Str), Γ i = some (Ci, fi) → Γ j = some (Cj, fj) → PySem.W.exmOne X.K (.ref Ci) (.ref Cj) = some (decide (j = i))
section
variable {c : Cfg} {C : Nat → List D → Hp → R Rv} {Γ : Gam} {k : Nat} {p : Pl} {X : Cx}
theorem Fits.blk (f : Fits c C Γ k p X) (scope : Scope) (s : Shared) (H : AHp) (a : Addr) (cl : List (Str × Addr)) (fp : List Addr) : Fits c C Γ k (p.blk scope) (X.blk s H scope (compEnvC scope cl a X.env) fp) :=
  ⟨f.N, by show relS scope X.env.scope = _; rw [f.sc]; rfl, rfl, f.nd, f.calm, f.gd, f.room, f.call, f.glb, f.free, f.cls, f.exm⟩
theorem Fits.u (f : Fits c C Γ k p X) : X.A.units + 64 < cLine := by have := f.room.un; omega
theorem Fits.u65 (f : Fits c C Γ k p X) : X.A.units + 65 < cLine := by have := f.room.un; omega
theorem Fits.u1 (f : Fits c C Γ k p X) : X.A.units + 1 < cLine := by have := f.room.un; omega
theorem Fits.vis (f : Fits c C Γ k p X) {x : Str} (e : p.vis x = true) : Vis X.env.scope x := by
  rw [f.sc]
  unfold Pl.vis at e
  split at e
  · rename_i h; exact .inl h
  · rename_i h; exact .inr (.inl h)
  · rename_i h; exact .inr (.inr h)
  · cases e
theorem Fits.loc (f : Fits c C Γ k p X) {x : Str} (e : p.loc x = true) : Loc X.env.scope x := by
  rw [f.sc]
  unfold Pl.loc at e
  split at e
  · rename_i h; exact .inl h
  · rename_i h; exact .inr h
  · cases e
theorem Fits.gl (f : Fits c C Γ k p X) {x : Str} (e : p.gl x = true) : Gl X x := by
  show X.env.scope.names.lookup x = some .globalImplicit
  rw [f.sc]
  unfold Pl.gl at e
  split at e
  · rename_i h; exact h
  · cases e
theorem Fits.sto (f : Fits c C Γ k p X) {x : Str} (e : p.sto x = true) : X.fn x = true ∨ X.env.scope.names.lookup x = some .local := by
  rw [f.sc, f.fn]
  unfold Pl.sto at e
  rw [Bool.or_eq_true] at e
  rcases e with e | e
  · exact .inl e
  · split at e
    · rename_i h; exact .inr h
    · cases e
theorem okName_d {x : Str} (e : okName x = true) : (x == ("__debug__" : Str)) = false ∧ (x == ("__classdict__" : Str)) = false ∧ x ≠ "__name__" := by
  simp only [okName, Bool.and_eq_true, Bool.not_eq_true'] at e
  refine ⟨e.1.1, e.1.2, fun z => ?_⟩
  rw [z] at e
  exact absurd e.2 (by decide)
theorem Fits.blt (f : Fits c C Γ k p X) {x y : Str} (e : blt c p x y = true) : x = y ∧ Gl X y ∧ X.mg y = none := by
  simp only [G.blt, Bool.and_eq_true, decide_eq_true_eq] at e
  exact ⟨e.1.1, f.gl e.1.2, f.free y (by simpa using e.2)⟩
theorem star_of {pe : Expr} {pes : List Expr} {env : PySem.Env} (e : noStar pe = true) : starEach (pe :: pes) env = (false, eval pe env) :: starEach pes env := by
  cases pe <;> first | rfl | (cases e; done)
theorem set_of {pe : Expr} {env : PySem.Env} (e : noSet pe = true) : ∀ x, foldedSetIterable pe env x = pure x := by
  intro x
  cases pe <;> first | rfl | (cases e; done)
theorem ix_of {pe : Expr} (e : noSlice pe = true) : PlainIx pe := by
  intro o i
  cases pe <;> first | rfl | (cases e; done)
theorem bop_of {o : Bop} {op : Operator} (e : bopM o op = true) : ∃ rr, BopR X (binaryOp op) o rr := by
  cases o <;> cases op <;> first | (cases e; done) | exact ⟨_, bop_add⟩ | exact ⟨_, bop_sub⟩ | exact ⟨_, bop_mul⟩ | exact ⟨_, bop_fdiv⟩ | exact ⟨_, bop_mod⟩ | exact ⟨_, bop_pow⟩
theorem aug_of {o : Bop} {op : Operator} (e : augM o op = true) : ∃ t, AugR X op o t := by
  cases o <;> cases op <;> first | (cases e; done) | exact ⟨_, aug_add⟩ | exact ⟨_, aug_sub⟩ | exact ⟨_, aug_mul⟩
theorem cop_of {o : Cop} {op : CmpOp} (hu5 : X.A.units + 65 < cLine) (e : copM o op = true) : ∃ rr, CopR X op o rr := by
  have hu : X.A.units + 64 < cLine := by omega
  have hu1 : X.A.units + 1 < cLine := by omega
  cases o <;> cases op <;> first | (cases e; done) | exact ⟨_, cop_eq hu⟩ | exact ⟨_, cop_ne hu⟩ | exact ⟨_, cop_lt⟩ | exact ⟨_, cop_le⟩ | exact ⟨_, cop_gt⟩ | exact ⟨_, cop_ge⟩ | exact ⟨_, cop_is⟩ | exact ⟨_, cop_isn⟩ | exact ⟨_, cop_in hu1⟩ | exact ⟨_, cop_nin hu1⟩ | exact ⟨_, cop_inD hu5⟩
theorem b1_of (f : Fits c C Γ k p X) {b : B1} {a : E} {pa : Expr} {pp pos : Pos} (hg : Gl X b.nm) (hm : X.mg b.nm = none) (ha : PE X pa (tE C X.K a)) (hs : starEach [pa] X.env = (false, eval pa X.env) :: starEach [] X.env) :
    PE X (.Call (.Name b.nm pp) [pa] [] pos) (tE C X.K (.b1 b a)) ∨ b = .dict := by
  have hc := f.calm
  cases b with
  | dict => exact .inr rfl
  | len => exact .inl (s_b1B b1_len hg hm (by decide +kernel) ha hs (by decide) (by decide))
  | int => exact .inl (s_b1T b1_int hg hm (by decide +kernel) ha hs (by decide) (by decide))
  | abs => exact .inl (s_b1B b1_abs hg hm (by decide +kernel) ha hs (by decide) (by decide))
  | sum => exact .inl (s_b1B (b1_sum hc) hg hm (by decide +kernel) ha hs (by decide) (by decide))
  | all => exact .inl (s_b1B (b1_all hc) hg hm (by decide +kernel) ha hs (by decide) (by decide))
  | any => exact .inl (s_b1B (b1_any hc) hg hm (by decide +kernel) ha hs (by decide) (by decide))
  | ord => exact .inl (s_b1B b1_ord hg hm (by decide +kernel) ha hs (by decide) (by decide))
  | str => exact .inl (s_b1T b1_str hg hm (by decide +kernel) ha hs (by decide) (by decide))
  | repr => exact .inl (s_b1B (b1_repr f.gd f.u) hg hm (by decide +kernel) ha hs (by decide) (by decide))
  | tuple => exact .inl (s_b1T b1_tuple hg hm (by decide +kernel) ha hs (by decide) (by decide))
  | list => exact .inl (s_b1T (b1_list hc) hg hm (by decide +kernel) ha hs (by decide) (by decide))
  | sorted => exact .inl (s_b1B b1_sorted hg hm (by decide +kernel) ha hs (by decide) (by decide))
  | min => exact .inl (s_b1B (b1_min hc) hg hm (by decide +kernel) ha hs (by decide) (by decide))
  | max => exact .inl (s_b1B (b1_max hc) hg hm (by decide +kernel) ha hs (by decide) (by decide))
theorem b2_of (f : Fits c C Γ k p X) {b : B2} {a d : E} {pa pd : Expr} {pp pos : Pos} (hg : Gl X b.nm) (hm : X.mg b.nm = none) (ha : PE X pa (tE C X.K a)) (hd : PE X pd (tE C X.K d)) (hs : starEach [pa, pd] X.env = (false, eval pa X.env) :: starEach [pd] X.env) (hs2 : starEach [pd] X.env = (false, eval pd X.env) :: starEach [] X.env) :
    PE X (.Call (.Name b.nm pp) [pa, pd] [] pos) (tE C X.K (.b2 b a d)) := by
  have hc := f.calm
  cases b with
  | min => exact s_b2 (b2_min hc) hg hm (by decide +kernel) ha hd hs hs2 (by decide) (by decide)
  | max => exact s_b2 (b2_max hc) hg hm (by decide +kernel) ha hd hs hs2 (by decide) (by decide)
theorem isi_of {a : E} {ty : Ty} {pa : Expr} {pp p2 pos : Pos} (hg : Gl X "isinstance") (hm : X.mg "isinstance" = none) (hgT : Gl X ty.nm) (hmT : X.mg ty.nm = none) (ha : PE X pa (tE C X.K a)) (hs : starEach [pa, .Name ty.nm p2] X.env = (false, eval pa X.env) :: starEach [.Name ty.nm p2] X.env) :
    PE X (.Call (.Name "isinstance" pp) [pa, .Name ty.nm p2] [] pos) (tE C X.K (.isi a ty)) := by
  cases ty <;> exact s_isi hg hm hgT hmT (by decide +kernel) ha hs (by decide) (by decide)
theorem both {e : E} {t : Bool} {pe : Expr} (h : PE X pe (tE C X.K e)) (pl : e.plainT = true) (hp : ∀ whole, isTrue pe X.env whole = (do let v ← whole; standAt pe.pos; holding [v] (truthy v))) (nb : isBoolP pe = false) : (t = false → PE X pe (tE C X.K e)) ∧ (t = true → PT X pe (tT C X.K e)) ∧ (t = true → isBoolP pe = true → PW X pe (tT C X.K e)) :=
  ⟨fun _ => h, fun _ => t_plain pl h hp, fun _ z => by rw [nb] at z; cases z⟩
theorem names_of (f : Fits c C Γ k p X) : ∀ (is : List Nat) (es : List Expr), namesM p is es = true → NamesAt X is es
  | [], [], _ => rfl
  | [], _ :: _, e => by cases e
  | _ :: _, [], e => by cases e
  | i :: is, pe :: es, e => by
    cases pe with
    | Name x pos =>
      simp only [namesM, Bool.and_eq_true, decide_eq_true_eq] at e
      exact ⟨x, pos, es, rfl, by rw [f.N]; exact e.1.1.1, f.loc e.1.1.2, f.sto e.1.2, names_of f is es e.2⟩
    | _ => cases e
theorem tg_of (f : Fits c C Γ k p X) {tg : Tg} {pe : Expr} (e : tgM p tg pe = true) : PG X pe (tG X.K tg) := by
  have hN : X.N.Nodup := by rw [f.N]; exact f.nd
  cases tg with
  | one i =>
    cases pe with
    | Name x pos =>
      simp only [tgM, Bool.and_eq_true, decide_eq_true_eq] at e
      exact g_one hN (by rw [f.N]; exact e.1.1) (f.loc e.1.2) (f.sto e.2)
    | _ => cases e
  | many is =>
    cases pe with
    | Tuple es k pos => exact g_many f.calm hN (names_of f is es e)
    | _ => cases e
theorem keys_of : ∀ (ks : List (List Nat)) (l : List (Option Expr)), keysM ks l = true → keysAt ks l ∧ l.length = ks.length ∧ l.all (·.isSome) = true
  | [], [], _ => ⟨rfl, rfl, rfl⟩
  | [], _ :: _, e => by cases e
  | _ :: _, [], e => by cases e
  | s :: ks, o :: l, e => by
    unfold keysM at e
    split at e
    · rename_i h1 h2; cases h1
    · rename_i h1 h2
      cases h1
      cases h2
      rw [Bool.and_eq_true] at e
      obtain ⟨a, b, d⟩ := keys_of ks l e.2
      have ex := of_decide_eq_true e.1
      subst ex
      exact ⟨⟨_, _, l, rfl, a⟩, by simp [b], by simpa using d⟩
    · cases e
theorem blk_of (f : Fits c C Γ k p X) {scope : Scope} {own : List Nat} (e : blkM p scope own = true) : ∃ ow : List (Str × Nat), BlkOk X.N X.env.scope scope ow ∧ ow.map (·.2) = own := by
  simp only [blkM, Bool.and_eq_true] at e
  obtain ⟨⟨⟨⟨e1, e2⟩, e3⟩, e4⟩, e5⟩ := e
  refine ⟨own.map fun i => ((p.N[i]?).getD "", i), ⟨by simpa using e1, fun y hy => ?_, fun q hq => ?_, fun y hy hf => ?_, fun y hy hl => ?_⟩, ?_⟩
  · have := List.all_eq_true.mp e2 y hy
    simpa using this
  · obtain ⟨i, hi, rfl⟩ := List.mem_map.mp hq
    have := List.all_eq_true.mp e3 i hi
    rw [f.N]
    obtain ⟨x, ex⟩ := Option.isSome_iff_exists.mp this
    simp [ex]
  · have := List.all_eq_true.mp e4 y hy
    rw [f.sc]
    rw [hf] at this
    simpa using this
  · have := List.all_eq_true.mp e5 y hy
    rw [f.N]
    have h2 : (y.2 == NameKind.local || y.2 == NameKind.cell) = true := by
      rcases hl with h | h <;> simp [h]
    rw [h2] at this
    simp only [Bool.not_true, Bool.false_or, Bool.or_eq_true] at this
    rcases this with h | h
    · left
      obtain ⟨i, hi, ei⟩ := List.any_eq_true.mp h
      refine List.mem_map.mpr ⟨(y.1, i), List.mem_map.mpr ⟨i, hi, ?_⟩, rfl⟩
      have ei' : p.N[i]? = some y.1 := by simpa using ei
      simp [ei']
    · right
      simpa using h
  · rw [List.map_map]
    exact List.map_id' own
end
end G

/-! G20: expressions that fit. -/
namespace G
open PySem PySem.Spec L2
section
variable {c : Cfg} {C : Nat → List D → Hp → R Rv} {Γ : Gam} {k : Nat}
theorem back_of {pos : Pos} {env : PySem.Env} : ∀ l : List Expr, l.all noStar = true → (backTo pos (starEach l env)).any (·.1) = false
  | [], _ => rfl
  | e :: l, h => by
    rw [List.all_cons, Bool.and_eq_true] at h
    rw [star_of h.1]
    have := back_of (pos := pos) (env := env) l h.2
    simpa [backTo] using this
theorem pass_none {X : Cx} : Passes (CX X.prog X.w) X (fun _ _ _ => False) := fun _ _ _ _ _ _ _ q => by
  obtain ⟨_, _, _, _, _, _, _, _, _, _, _, _, z⟩ := q
  exact z.elim
theorem call_of {p : Pl} {X : Cx} (f : Fits c C Γ k p X) {g : Nat} {x : Str} {es : Es} {pes : List Expr} {pp pos : Pos} (hg : Gl X x) (hn : okName x = true) (hf : c.fns.lookup g = some (x, es.len)) (ha : PA X pes (tA C X.K es)) (hs : pes.all noStar = true) (h0 : pes = [] → es = .nil) : PE X (.Call (.Name x pp) pes [] pos) (tE C X.K (.call g es)) := by
  obtain ⟨fa, fd, ps, F, hm, hk, hb⟩ := f.call g x es.len hf
  obtain ⟨hd, _, _⟩ := okName_d hn
  cases pes with
  | nil =>
    have e0 := h0 rfl
    subst e0
    refine imE (pe_callG0 (E := fun _ _ _ => False) F f.gd f.room hg hm hk hb pass_none hd) fun σ H Q q => ?_
    obtain ⟨β, ρ, h, rs, h', ee, ok, e, p⟩ := call_tA (Γ := Γ) (E := fun _ _ _ => False) rfl σ H Q q
    simp only [evs] at e
    cases e
    exact p [] H β [] ok Ext.refl ⟨rfl, rfl⟩ List.nodup_nil (fun _ m => nomatch m)
  | cons pe pes =>
    rw [List.all_cons, Bool.and_eq_true] at hs
    exact imE (pe_callG (E := fun _ _ _ => False) F f.gd f.room hg hm hk hb pass_none ha hd (star_of hs.1) (back_of pes hs.2)) fun σ H Q q => call_tA rfl σ H Q q
theorem beq_d {d : D} {q : Str × D} {x : Str} (e : (decide (q.1 = x) && D.beq q.2 d) = true) : q = (x, d) := by
  rw [Bool.and_eq_true] at e
  obtain ⟨a, b⟩ := q
  have e1 : a = x := of_decide_eq_true e.1
  have e2 : b = d := beq_eq b d e.2
  rw [e1, e2]
mutual
theorem okE : ∀ (e : E) (t : Bool) (p : Pl) (pe : Expr) (X : Cx), Fits c C Γ k p X → mE c e t p pe = true → (t = false → PE X pe (tE C X.K e)) ∧ (t = true → PT X pe (tT C X.K e)) ∧ (t = true → isBoolP pe = true → PW X pe (tT C X.K e))
  | .c d, t, p, pe, X, f, h => by
    simp only [mE] at h
    split at h
    · split at h
      · exact both s_non rfl (fun _ => rfl) rfl
      · have := eq_of_beq h; subst this; exact both s_bl rfl (fun _ => rfl) rfl
      · have := of_decide_eq_true h; subst this; exact both s_int rfl (fun _ => rfl) rfl
      · exact both (s_str (of_decide_eq_true h)) rfl (fun _ => rfl) rfl
      · cases h
    · cases h
  | .var i, t, p, pe, X, f, h => by
    simp only [mE] at h
    split at h
    · simp only [Bool.and_eq_true, decide_eq_true_eq] at h
      obtain ⟨h1, h2, _⟩ := okName_d h.2
      exact both (s_var (by rw [f.N]; exact h.1.1) (f.vis h.1.2) h1 h2) rfl (fun _ => rfl) rfl
    · cases h
  | .glb i d, t, p, pe, X, f, h => by
    simp only [mE] at h
    split at h
    · simp only [Bool.and_eq_true] at h
      obtain ⟨⟨h1, h2⟩, h3⟩ := h
      split at h3
      · rename_i q hq
        have := beq_d h3
        subst this
        exact both (s_glb (f.gl h1) (f.glb i _ d hq) (okName_d h2).1) rfl (fun _ => rfl) rfl
      · cases h3
    · cases h
  | .neg a, t, p, pe, X, f, h => by
    simp only [mE] at h
    split at h
    · exact both (s_neg ((okE a false p _ X f h).1 rfl)) rfl (fun _ => rfl) rfl
    · cases h
  | .not a, t, p, pe, X, f, h => by
    simp only [mE] at h
    split at h
    · cases t with
      | true => exact ⟨(fun z => nomatch z), fun _ => t_not ((okE a true p _ X f h).2.1 rfl), fun _ z => nomatch z⟩
      | false =>
        simp only [Bool.and_eq_true] at h
        exact ⟨fun _ => s_not ((okE a false p _ X f h.1).1 rfl) h.2, (fun z => nomatch z), (fun z => nomatch z)⟩
    · cases h
  | .bin o a b, t, p, pe, X, f, h => by
    simp only [mE] at h
    split at h
    · simp only [Bool.and_eq_true] at h
      obtain ⟨rr, B⟩ := bop_of (X := X) h.1.1
      exact both (s_bin B ((okE a false p _ X f h.1.2).1 rfl) ((okE b false p _ X f h.2).1 rfl)) rfl (fun _ => rfl) rfl
    · cases h
  | .cmp o a b, t, p, pe, X, f, h => by
    simp only [mE] at h
    split at h
    · simp only [Bool.and_eq_true, Bool.not_eq_true'] at h
      obtain ⟨rr, B⟩ := cop_of (X := X) f.u65 h.1.1.1
      exact ⟨fun _ => s_cmp B ((okE a false p _ X f h.1.1.2).1 rfl) ((okE b false p _ X f h.1.2).1 rfl) h.2, fun _ => t_cmp B ((okE a false p _ X f h.1.1.2).1 rfl) ((okE b false p _ X f h.1.2).1 rfl) h.2, fun _ z => nomatch z⟩
    · cases h
  | .ch3 o o' o'' a b d e, t, p, pe, X, f, h => by
    simp only [mE] at h
    split at h
    · simp only [Bool.and_eq_true, Bool.not_eq_true'] at h
      obtain ⟨⟨⟨⟨⟨⟨⟨⟨h0, h1⟩, h2⟩, h3⟩, h4⟩, h5⟩, h6⟩, h7⟩, h8⟩ := h
      obtain ⟨rr, B⟩ := cop_of (X := X) f.u65 h1
      obtain ⟨rr', B'⟩ := cop_of (X := X) f.u65 h2
      obtain ⟨rr'', B''⟩ := cop_of (X := X) f.u65 h3
      exact ⟨fun _ => s_ch3 B B' B'' ((okE a false p _ X f h4).1 rfl) ((okE b false p _ X f h5).1 rfl) ((okE d false p _ X f h6).1 rfl) ((okE e false p _ X f h7).1 rfl) h8, (fun z => by rw [z] at h0; cases h0), (fun z => by rw [z] at h0; cases h0)⟩
    · cases h
  | .ch o o' a b d, t, p, pe, X, f, h => by
    simp only [mE] at h
    split at h
    · simp only [Bool.and_eq_true, Bool.not_eq_true'] at h
      obtain ⟨⟨⟨⟨⟨h1, h2⟩, h3⟩, h4⟩, h5⟩, h6⟩ := h
      obtain ⟨rr, B⟩ := cop_of (X := X) f.u65 h1
      obtain ⟨rr', B'⟩ := cop_of (X := X) f.u65 h2
      exact ⟨fun _ => s_ch B B' ((okE a false p _ X f h3).1 rfl) ((okE b false p _ X f h4).1 rfl) ((okE d false p _ X f h5).1 rfl) h6, fun _ => t_ch B B' ((okE a false p _ X f h3).1 rfl) ((okE b false p _ X f h4).1 rfl) ((okE d false p _ X f h5).1 rfl) h6, fun _ z => nomatch z⟩
    · cases h
  | .and a b, t, p, pe, X, f, h => by
    simp only [mE] at h
    split at h
    · rename_i pa pb rest pos
      simp only [Bool.and_eq_true] at h
      obtain ⟨h1, h2⟩ := h
      have i1 := okE a t p pa X f h1
      cases rest with
      | nil =>
        have i2 := okE b t p pb X f h2
        exact ⟨fun z => s_and (i1.1 z) (pe_one (i2.1 z)), fun z => (t_and (i1.2.1 z) (t_and1 (i2.2.1 z))).pt, fun z _ => t_and (i1.2.1 z) (t_and1 (i2.2.1 z))⟩
      | cons r rs =>
        have i2 := okE b t p (.BoolOp .And (pb :: r :: rs) pos) X f h2
        exact ⟨fun z => s_and (i1.1 z) (i2.1 z), fun z => (t_and (i1.2.1 z) (i2.2.2 z rfl)).pt, fun z _ => t_and (i1.2.1 z) (i2.2.2 z rfl)⟩
    · cases h
  | .or a b, t, p, pe, X, f, h => by
    simp only [mE] at h
    split at h
    · rename_i pa pb rest pos
      simp only [Bool.and_eq_true] at h
      obtain ⟨h1, h2⟩ := h
      have i1 := okE a t p pa X f h1
      cases rest with
      | nil =>
        have i2 := okE b t p pb X f h2
        exact ⟨fun z => s_or (i1.1 z) (pe_one (i2.1 z)), fun z => (t_or (i1.2.1 z) (t_or1 (i2.2.1 z))).pt, fun z _ => t_or (i1.2.1 z) (t_or1 (i2.2.1 z))⟩
      | cons r rs =>
        have i2 := okE b t p (.BoolOp .Or (pb :: r :: rs) pos) X f h2
        exact ⟨fun z => s_or (i1.1 z) (i2.1 z), fun z => (t_or (i1.2.1 z) (i2.2.2 z rfl)).pt, fun z _ => t_or (i1.2.1 z) (i2.2.2 z rfl)⟩
    · cases h
  | .ife tt a b, t, p, pe, X, f, h => by
    simp only [mE] at h
    split at h
    · simp only [Bool.and_eq_true, Bool.not_eq_true'] at h
      obtain ⟨⟨⟨h1, h2⟩, h3⟩, h4⟩ := h
      exact ⟨fun _ => s_ife ((okE tt true p _ X f h2).2.1 rfl) ((okE a false p _ X f h3).1 rfl) ((okE b false p _ X f h4).1 rfl), (fun z => by rw [z] at h1; cases h1), (fun z => by rw [z] at h1; cases h1)⟩
    · cases h
  | .tup es, t, p, pe, X, f, h => by
    simp only [mE] at h
    split at h
    · exact both (s_tup (okEs es p _ X f h).1) rfl (fun _ => rfl) rfl
    · cases h
  | .lst es, t, p, pe, X, f, h => by
    simp only [mE] at h
    split at h
    · exact both (s_lst (okEs es p _ X f h).1) rfl (fun _ => rfl) rfl
    · cases h
  | .dk ks es, t, p, pe, X, f, h => by
    simp only [mE] at h
    split at h
    · simp only [Bool.and_eq_true, decide_eq_true_eq, Bool.not_eq_true'] at h
      obtain ⟨⟨⟨⟨h1, h2⟩, h3⟩, h4⟩, h5⟩ := h
      obtain ⟨i1, i2, i3⟩ := keys_of ks _ h1
      obtain ⟨j1, j2, j3, j4⟩ := okEs es p _ X f h2
      exact both (s_dk i1 j2 h3 (fun z => by rw [z] at h5; cases h5) h4 i3 (by rw [i2, h3, j4]) i2) rfl (fun _ => rfl) rfl
    · cases h
  | .dk0, t, p, pe, X, f, h => by
    simp only [mE] at h
    split at h
    · exact both s_dk0 rfl (fun _ => rfl) rfl
    · cases h
  | .dt, t, p, pe, X, f, h => by
    simp only [mE] at h
    split at h
    · exact both s_dt rfl (fun _ => rfl) rfl
    · cases h
  | .idx a i, t, p, pe, X, f, h => by
    simp only [mE] at h
    split at h
    · simp only [Bool.and_eq_true] at h
      exact both (s_idx f.u1 ((okE a false p _ X f h.1.1).1 rfl) ((okE i false p _ X f h.1.2).1 rfl) (ix_of h.2)) rfl (fun _ => rfl) rfl
    · cases h
  | .slc a lo hi, t, p, pe, X, f, h => by
    simp only [mE] at h
    split at h
    · simp only [Bool.and_eq_true] at h
      exact both (s_slc ((okE a false p _ X f h.1.1).1 rfl) (okO lo p _ X f h.1.2) (okO hi p _ X f h.2)) rfl (fun _ => rfl) rfl
    · cases h
  | .rev a, t, p, pe, X, f, h => by
    simp only [mE] at h
    split at h
    · exact both (s_rev ((okE a false p _ X f h).1 rfl)) rfl (fun _ => rfl) rfl
    · cases h
  | .rev2 a, t, p, pe, X, f, h => by
    simp only [mE] at h
    split at h
    · exact both (s_rev2 ((okE a false p _ X f h).1 rfl)) rfl (fun _ => rfl) rfl
    · cases h
  | .call g es, t, p, pe, X, f, h => by
    simp only [mE] at h
    split at h
    · simp only [Bool.and_eq_true] at h
      obtain ⟨⟨⟨h1, h2⟩, h3⟩, h4⟩ := h
      split at h4
      · rename_i q hq
        simp only [Bool.and_eq_true, decide_eq_true_eq] at h4
        obtain ⟨a, b⟩ := q
        have e1 : a = _ := h4.1
        have e2 : b = es.len := h4.2
        subst e1 e2
        obtain ⟨j1, j2, j3, j4⟩ := okEs es p _ X f h3
        exact both (call_of f (f.gl h1) h2 hq j1 j3 fun z => by
          rw [z] at j4
          cases es with
          | nil => rfl
          | cons _ _ => simp [Es.len] at j4) rfl (fun _ => rfl) rfl
      · cases h4
    · cases h
  | .b1 b a, t, p, pe, X, f, h => by
    simp only [mE] at h
    split at h
    · simp only [Bool.and_eq_true] at h
      obtain ⟨⟨⟨h1, h2⟩, h3⟩, h4⟩ := h
      obtain ⟨e, g1, g2⟩ := f.blt h1
      subst e
      rcases b1_of f g1 g2 ((okE a false p _ X f h2).1 rfl) (star_of h3) with z | z
      · exact both z rfl (fun _ => rfl) rfl
      · rw [z] at h4; cases h4
    · cases h
  | .b2 b a d, t, p, pe, X, f, h => by
    simp only [mE] at h
    split at h
    · simp only [Bool.and_eq_true] at h
      obtain ⟨⟨⟨⟨h1, h2⟩, h3⟩, h4⟩, h5⟩ := h
      obtain ⟨e, g1, g2⟩ := f.blt h1
      subst e
      exact both (b2_of f g1 g2 ((okE a false p _ X f h2).1 rfl) ((okE d false p _ X f h3).1 rfl) (star_of h4) (star_of h5)) rfl (fun _ => rfl) rfl
    · cases h
  | .isi a ty, t, p, pe, X, f, h => by
    simp only [mE] at h
    split at h
    · simp only [Bool.and_eq_true] at h
      obtain ⟨⟨⟨h1, h2⟩, h3⟩, h4⟩ := h
      obtain ⟨e, g1, g2⟩ := f.blt h1
      subst e
      obtain ⟨e, g3, g4⟩ := f.blt h2
      subst e
      exact both (isi_of g1 g2 g3 g4 ((okE a false p _ X f h3).1 rfl) (star_of h4)) rfl (fun _ => rfl) rfl
    · cases h
  | .mt m o es, t, p, pe, X, f, h => by
    simp only [mE] at h
    split at h
    · split at h
      · simp only [Bool.and_eq_true, decide_eq_true_eq] at h
        obtain ⟨⟨⟨⟨h1, h2⟩, h3⟩, h4⟩, h5⟩ := h
        subst h1
        cases es with
        | nil => simp [mEs] at h3
        | cons e0 es =>
          simp only [mEs, Bool.and_eq_true] at h3
          cases es with
          | nil => exact both (s_append ((okE o false p _ X f h2).1 rfl) ((okE e0 false p _ X f h3.1.1).1 rfl) h4 h5 (star_of h3.1.2)) rfl (fun _ => rfl) rfl
          | cons _ _ => simp [mEs] at h3
      · cases h
    · split at h
      · simp only [Bool.and_eq_true, decide_eq_true_eq] at h
        obtain ⟨⟨⟨⟨h1, h2⟩, h3⟩, h4⟩, h5⟩ := h
        subst h1
        cases es with
        | nil => simp [mEs] at h3
        | cons e0 es =>
          simp only [mEs, Bool.and_eq_true] at h3
          cases es with
          | nil => exact both (s_extend ((okE o false p _ X f h2).1 rfl) ((okE e0 false p _ X f h3.1.1).1 rfl) h4 h5 (star_of h3.1.2)) rfl (fun _ => rfl) rfl
          | cons _ _ => simp [mEs] at h3
      · cases h
    · split at h
      · simp only [Bool.and_eq_true, decide_eq_true_eq] at h
        obtain ⟨⟨⟨⟨h1, h2⟩, h3⟩, h4⟩, h5⟩ := h
        subst h1
        cases es with
        | nil => simp [mEs] at h3
        | cons e0 es =>
          simp only [mEs, Bool.and_eq_true] at h3
          cases es with
          | nil => exact both (s_join ((okE o false p _ X f h2).1 rfl) ((okE e0 false p _ X f h3.1.1).1 rfl) h4 h5 (star_of h3.1.2)) rfl (fun _ => rfl) rfl
          | cons _ _ => simp [mEs] at h3
      · cases h
    · split at h
      · simp only [Bool.and_eq_true, decide_eq_true_eq] at h
        obtain ⟨⟨⟨⟨h1, h2⟩, h3⟩, h4⟩, h5⟩ := h
        subst h1
        cases es with
        | nil => simp [mEs] at h3
        | cons e0 es =>
          simp only [mEs, Bool.and_eq_true] at h3
          cases es with
          | nil => exact both (s_index ((okE o false p _ X f h2).1 rfl) ((okE e0 false p _ X f h3.1.1).1 rfl) h4 h5 (star_of h3.1.2)) rfl (fun _ => rfl) rfl
          | cons _ _ => simp [mEs] at h3
      · cases h
    · split at h
      · simp only [Bool.and_eq_true, decide_eq_true_eq] at h
        obtain ⟨⟨⟨⟨h1, h2⟩, h3⟩, h4⟩, h5⟩ := h
        subst h1
        cases es with
        | nil => simp [mEs] at h3
        | cons e0 es =>
          simp only [mEs, Bool.and_eq_true] at h3
          cases es with
          | nil => exact both (s_indexL f.u65 ((okE o false p _ X f h2).1 rfl) ((okE e0 false p _ X f h3.1.1).1 rfl) h4 h5 (star_of h3.1.2)) rfl (fun _ => rfl) rfl
          | cons _ _ => simp [mEs] at h3
      · cases h
    · split at h
      · simp only [Bool.and_eq_true, decide_eq_true_eq] at h
        obtain ⟨⟨⟨⟨h1, h2⟩, h3⟩, h4⟩, h5⟩ := h
        subst h1
        cases es with
        | nil => exact both (s_pop ((okE o false p _ X f h2).1 rfl) h4 h5) rfl (fun _ => rfl) rfl
        | cons e0 es => simp [mEs] at h3
      · cases h
    · split at h
      · simp only [Bool.and_eq_true, decide_eq_true_eq] at h
        obtain ⟨⟨⟨⟨h1, h2⟩, h3⟩, h4⟩, h5⟩ := h
        subst h1
        cases es with
        | nil => simp [mEs] at h3
        | cons e0 es =>
          simp only [mEs, Bool.and_eq_true] at h3
          cases es with
          | nil => simp [mEs] at h3
          | cons e1 es =>
            simp only [mEs, Bool.and_eq_true] at h3
            cases es with
            | nil => exact both (s_get2 f.u1 ((okE o false p _ X f h2).1 rfl) ((okE e0 false p _ X f h3.1.1).1 rfl) ((okE e1 false p _ X f h3.2.1.1).1 rfl) h4 h5 (star_of h3.1.2) (star_of h3.2.1.2)) rfl (fun _ => rfl) rfl
            | cons _ _ => simp [mEs] at h3
      · cases h
    · cases h
  | .lc own tg it cs elt, t, p, pe, X, f, h => by
    simp only [mE] at h
    split at h
    · simp only [Bool.and_eq_true] at h
      obtain ⟨⟨⟨⟨⟨⟨⟨h1, h2⟩, h8⟩, h3⟩, h4⟩, h5⟩, h6⟩, h7⟩ := h
      obtain ⟨ow, B, eo⟩ := blk_of f h1
      have hN : X.N.Nodup := by rw [f.N]; exact f.nd
      refine both ?_ rfl (fun _ => rfl) rfl
      have hsub : ∀ i ∈ tg.slots, i ∈ own := fun i hi => by simpa using List.all_eq_true.mp h5 i hi
      subst eo
      exact imE (pe_lc (g := tG X.K tg) (tt := tTs C X.K cs) (te := tE C X.K elt) f.calm hN (okI it p _ X f h2 _ h8) B (fun s H a cl fp => tg_of (f.blk _ s H a cl fp) h4) (fun s H a cl fp => okCs cs _ _ _ (f.blk _ s H a cl fp) h6) (fun s H a cl fp => (okE elt false _ _ _ (f.blk _ s H a cl fp) h7).1 rfl) (set_of h3)) (lc_read hsub)
    · cases h
  | .lenS own tg it elt, t, p, pe, X, f, h => by
    simp only [mE] at h
    split at h
    · simp only [Bool.and_eq_true] at h
      obtain ⟨⟨⟨⟨⟨⟨⟨h0, h1⟩, h2⟩, h8⟩, h3⟩, h4⟩, h5⟩, h7⟩ := h
      obtain ⟨e, g1, g2⟩ := f.blt h0
      subst e
      obtain ⟨ow, B, eo⟩ := blk_of f h1
      have hN : X.N.Nodup := by rw [f.N]; exact f.nd
      refine both ?_ rfl (fun _ => rfl) rfl
      have hsub : ∀ i ∈ tg.slots, i ∈ own := fun i hi => by simpa using List.all_eq_true.mp h5 i hi
      subst eo
      exact imE (pe_lenK (g := tG X.K tg) (te := tE C X.K elt) f.calm hN g1 g2 (okI it p _ X f h2 _ h8) B (fun s H a cl fp => tg_of (f.blk _ s H a cl fp) h4) (fun s H a cl fp => (okE elt false _ _ _ (f.blk _ s H a cl fp) h7).1 rfl) (set_of h3)) (len_read hsub)
    · cases h
  | .lc2 _ _ _ _ _ _, t, p, pe, X, f, h => by simp only [mE] at h; cases h
  | .opq, t, p, pe, X, f, h => ⟨fun _ => ⟨fun pins s σ H Q I q => by
      obtain ⟨β, ρ, h, r, h', _, _, e, _⟩ := q
      simp [ev] at e⟩, fun _ => ⟨fun pins s σ H Q I q => by
      obtain ⟨β, ρ, h, r, h', _, _, e, _⟩ := q
      simp [tst, ev, R.bind] at e⟩, fun _ _ => ⟨fun wh pins s σ H Q I q => by
      obtain ⟨β, ρ, h, r, h', _, _, e, _⟩ := q
      simp [tst, ev, R.bind] at e⟩⟩
theorem okEs : ∀ (es : Es) (p : Pl) (pes : List Expr) (X : Cx), Fits c C Γ k p X → mEs c es p pes = true → PA X pes (tA C X.K es) ∧ EsOk X C es pes ∧ pes.all noStar = true ∧ pes.length = es.len
  | .nil, p, pes, X, f, h => by
    simp only [mEs] at h
    cases pes with
    | nil => exact ⟨a_nil, rfl, rfl, rfl⟩
    | cons _ _ => cases h
  | .cons e es, p, pes, X, f, h => by
    simp only [mEs] at h
    cases pes with
    | nil => cases h
    | cons pe r =>
      simp only [Bool.and_eq_true] at h
      obtain ⟨⟨h1, h2⟩, h3⟩ := h
      obtain ⟨j1, j2, j3, j4⟩ := okEs es p r X f h3
      have i := (okE e false p pe X f h1).1 rfl
      exact ⟨a_cons i j1 (star_of h2), ⟨pe, r, rfl, i, j2⟩, by simp only [List.all_cons, h2, j3, Bool.and_self], by simp [Es.len, j4]⟩
theorem okCs : ∀ (cs : Es) (p : Pl) (pes : List Expr) (X : Cx), Fits c C Γ k p X → mCs c cs p pes = true → PTs X pes (tTs C X.K cs)
  | .nil, p, pes, X, f, h => by
    simp only [mCs] at h
    cases pes with
    | nil => exact ts_nil
    | cons _ _ => cases h
  | .cons e es, p, pes, X, f, h => by
    simp only [mCs] at h
    split at h
    · simp only [Bool.and_eq_true] at h
      cases es with
      | nil => exact ts_one ((okE e true p _ X f h.1).2.1 rfl)
      | cons _ _ => cases h.2
    · cases h
theorem okO : ∀ (o : Oe) (p : Pl) (pe : Option Expr) (X : Cx), Fits c C Γ k p X → mO c o p pe = true → PO X pe (tO C X.K o)
  | .none, p, pe, X, f, h => by
    simp only [mO] at h
    cases pe with
    | none => exact o_none
    | some _ => cases h
  | .some e, p, pe, X, f, h => by
    simp only [mO] at h
    cases pe with
    | none => cases h
    | some pe => exact o_some ((okE e false p pe X f h).1 rfl)
theorem okI : ∀ (it : It) (p : Pl) (pe : Expr) (X : Cx), Fits c C Γ k p X → mI c it p pe = true → ∀ tg, itTg it tg = true → PI X tg pe (tI C X.K it)
  | .seq e, p, pe, X, f, h, tg, _ => by
    simp only [mI] at h
    exact i_seq ((okE e false p pe X f h).1 rfl)
  | .r1 a, p, pe, X, f, h, tg, _ => by
    simp only [mI] at h
    split at h
    · simp only [Bool.and_eq_true] at h
      obtain ⟨⟨h1, h2⟩, h3⟩ := h
      obtain ⟨e, g1, g2⟩ := f.blt h1
      subst e
      exact i_r1 g1 g2 ((okE a false p _ X f h2).1 rfl) (star_of h3)
    · cases h
  | .r2 a b, p, pe, X, f, h, tg, _ => by
    simp only [mI] at h
    split at h
    · simp only [Bool.and_eq_true] at h
      obtain ⟨⟨⟨⟨h1, h2⟩, h3⟩, h4⟩, h5⟩ := h
      obtain ⟨e, g1, g2⟩ := f.blt h1
      subst e
      exact i_r2 g1 g2 ((okE a false p _ X f h2).1 rfl) ((okE b false p _ X f h3).1 rfl) (by rw [star_of h4, star_of h5]; rfl) (star_of h5)
    · cases h
  | .r3 a b d, p, pe, X, f, h, tg, _ => by
    simp only [mI] at h
    split at h
    · simp only [Bool.and_eq_true] at h
      obtain ⟨⟨⟨⟨⟨⟨h1, h2⟩, h3⟩, h4⟩, h5⟩, h6⟩, h7⟩ := h
      obtain ⟨e, g1, g2⟩ := f.blt h1
      subst e
      exact i_r3 g1 g2 ((okE a false p _ X f h2).1 rfl) ((okE b false p _ X f h3).1 rfl) ((okE d false p _ X f h4).1 rfl) (star_of h5) (star_of h6) (star_of h7) (back_of _ (by simp [h6, h7]))
    · cases h
  | .enu a, p, pe, X, f, h, tg, ht => by
    simp only [mI] at h
    split at h
    · simp only [Bool.and_eq_true] at h
      obtain ⟨⟨h1, h2⟩, h3⟩ := h
      obtain ⟨e, g1, g2⟩ := f.blt h1
      subst e
      cases tg with
      | Tuple es kk tp => exact i_enu g1 g2 ((okE a false p _ X f h2).1 rfl) (star_of h3)
      | _ => cases ht
    · cases h
  | .zip a b, p, pe, X, f, h, tg, ht => by
    simp only [mI] at h
    split at h
    · simp only [Bool.and_eq_true] at h
      obtain ⟨⟨⟨⟨h1, h2⟩, h3⟩, h4⟩, h5⟩ := h
      obtain ⟨e, g1, g2⟩ := f.blt h1
      subst e
      cases tg with
      | Tuple es kk tp => exact i_zip g1 g2 ((okE a false p _ X f h2).1 rfl) ((okE b false p _ X f h3).1 rfl) (star_of h4) (star_of h5) (back_of _ (by simp [h5]))
      | _ => cases ht
    · cases h
end
end
end G

/-! X3: what is raised passes through expressions. -/
namespace G
open PySem PySem.Spec L2
open PyProof.Rows hiding St
/-! ### operators raise nothing -/
section
variable {h h' : Hp} {x y : Rv} {c : Nat} {ds : List D}
theorem addV_exc : addV h x y ≠ .exc c ds h' := by
  intro e
  unfold addV at e
  split at e
  · cases e
  · exact when_exc e
  · exact when_exc e
  · split at e
    · exact when_exc e
    · cases e
theorem mulV_exc : mulV h x y ≠ .exc c ds h' := by
  intro e
  unfold mulV at e
  split at e
  · exact when_exc e
  · exact when_exc e
  · exact when_exc e
  · split at e
    · exact when_exc e
    · cases e
  · cases e
theorem intOp_exc {f : Int → Int → R Rv} (hf : ∀ i j, f i j ≠ .exc c ds h') : intOp f x y ≠ .exc c ds h' := by
  intro e
  unfold intOp at e
  split at e
  · exact hf _ _ e
  · cases e
theorem binV_exc {o : Bop} : binV h o x y ≠ .exc c ds h' := by
  cases o with
  | add => exact addV_exc
  | mul => exact mulV_exc
  | sub => exact intOp_exc fun i j => (by intro e; cases e)
  | fdiv => exact intOp_exc fun i j => when_exc
  | mod => exact intOp_exc fun i j => when_exc
  | pow => exact intOp_exc fun i j => when_exc
theorem cmpV_exc {o : Cop} : cmpV h o x y ≠ .exc c ds h' := by
  intro e
  unfold cmpV at e
  split at e
  all_goals first
    | exact boolR_exc e
    | (cases e; done)
theorem idxV_exc : idxV h x y ≠ .exc c ds h' := by
  intro e
  unfold idxV at e
  split at e
  · exact opt_exc e
  · exact opt_exc e
  · exact opt_exc e
  · split at e
    · exact opt_exc e
    · cases e
  · exact opt_exc e
  · cases e
theorem b1V_exc {b : B1} : b1V h b x ≠ .exc c ds h' := by
  intro e
  unfold b1V at e
  split at e
  all_goals first
    | exact opt_exc e
    | exact when_exc e
    | (cases e; done)
    | (split at e <;> first | exact opt_exc e | (cases e; done))
end
section
variable {X : Cx} {C : Nat → List D → Hp → R Rv} {Γ : Gam} {W : WX} {K : Frag} {σ : St} {ρ : Env} {β β1 : List Addr} {H H1 : AHp} {h h1 h2 h' : Hp} {r r1 r2 : Rv} {Q : VK}
def tX (C : Nat → List D → Hp → R Rv) (K : Frag) (Γ : Gam) (W : WX) (e : E) : TE := fun σ H Q => ∃ β ρ h c ds h', EnvOk K β H σ ρ ∧ HpOk K β H h ∧ ev C e ρ h = .exc c ds h' ∧ PostX Γ K β H h' c ds fun cls d H' => W cls d σ H'
def tXT (C : Nat → List D → Hp → R Rv) (K : Frag) (Γ : Gam) (W : WX) (e : E) : TT := fun σ H Q => ∃ β ρ h c ds h', EnvOk K β H σ ρ ∧ HpOk K β H h ∧ tst C e ρ h = .exc c ds h' ∧ PostX Γ K β H h' c ds fun cls d H' => W cls d σ H'
def tXA (C : Nat → List D → Hp → R Rv) (K : Frag) (Γ : Gam) (W : WX) (es : Es) : TA := fun σ H Q => ∃ β ρ h c ds h', EnvOk K β H σ ρ ∧ HpOk K β H h ∧ evs C es ρ h = .exc c ds h' ∧ PostX Γ K β H h' c ds fun cls d H' => W cls d σ H'
theorem eorE {e : E} {pe : Expr} {b : Bool} (a : PE X pe (tE C X.K e)) (x : b = true → PE X pe (tX C X.K Γ W e)) : PE X pe (tEX C X.K Γ W b e) :=
  ⟨fun pins s σ H Q I q => q.elim (a.run pins s σ H Q I) fun z => (x z.1).run pins s σ H Q I z.2⟩
theorem eorT {e : E} {pe : Expr} {b : Bool} (a : PT X pe (tT C X.K e)) (x : b = true → PT X pe (tXT C X.K Γ W e)) : PT X pe (tTX C X.K Γ W b e) :=
  ⟨fun pins s σ H Q I q => q.elim (a.run pins s σ H Q I) fun z => (x z.1).run pins s σ H Q I z.2⟩
theorem eorA {es : Es} {pes : List Expr} {b : Bool} (a : PA X pes (tA C X.K es)) (x : b = true → PA X pes (tXA C X.K Γ W es)) : PA X pes (tAX C X.K Γ W b es) :=
  ⟨fun pos pins s σ H Q I q => q.elim (a.run pos pins s σ H Q I) fun z => (x z.1).run pos pins s σ H Q I z.2⟩
theorem xa_never {pe : Expr} {e : E} (no : ∀ ρ h c ds h', ev C e ρ h ≠ .exc c ds h') : PE X pe (tX C X.K Γ W e) :=
  ⟨fun pins s σ H Q I q => by
    obtain ⟨β, ρ, h, c, ds, h', _, _, e, _⟩ := q
    exact absurd e (no _ _ _ _ _)⟩
/-- one of two subterms raises -/
theorem two_x {a b : E} {k : V → AHp → TE} {f : Rv → Rv → Hp → R Rv} {kk : V → V → AHp → Prop} {c : Nat} {ds : List D} (ee : EnvOk K β H σ ρ) (ok : HpOk K β H h)
    (e : ((ev C a ρ h).bind fun x h => (ev C b ρ h).bind fun y h => f x y h) = .exc c ds h') (no : ∀ x y h, f x y h ≠ .exc c ds h') (p : PostX Γ K β H h' c ds fun cls d H' => W cls d σ H') :
    tEX C K Γ W true a σ H fun v1 H1 => tEX C K Γ W true b σ H1 fun v2 H2 => kk v1 v2 H2 := by
  rcases bind_exc e with e1 | ⟨r1, h1, e1, e⟩
  · exact .inr ⟨rfl, β, ρ, h, c, ds, h', ee, ok, e1, p⟩
  · rcases bind_exc e with e2 | ⟨r2, h2, e2, e⟩
    · exact .inl (oneE ee ok e1 fun v H1 β1 F ok1 ee1 x1 R1 f1 => .inr ⟨rfl, β1, ρ, h1, c, ds, h', ee1, ok1, e2, p.later ok1 x1⟩)
    · exact absurd e (no _ _ _)
theorem x_bin {o : Bop} {op : Operator} {rr : R2} {a b : E} {pa pb : Expr} {pos : Pos} (B : BopR X (binaryOp op) o rr) (ha : PE X pa (tEX C X.K Γ W true a)) (hb : PE X pb (tEX C X.K Γ W true b)) : PE X (.BinOp pa op pb pos) (tX C X.K Γ W (.bin o a b)) :=
  imE (pe_op B.run ha hb) fun σ H Q q => by
    obtain ⟨β, ρ, h, c, ds, h', ee, ok, e, p⟩ := q
    simp only [ev] at e
    exact two_x (k := fun _ _ => tE C X.K a) ee ok e (fun _ _ _ => binV_exc) p
theorem x_cmp {o : Cop} {op : CmpOp} {rr : R2} {a b : E} {pa pb : Expr} {pos : Pos} (B : CopR X op o rr) (ha : PE X pa (tEX C X.K Γ W true a)) (hb : PE X pb (tEX C X.K Γ W true b)) (hm : behindInMarks op pb = false) : PE X (.Compare pa [op] [pb] pos) (tX C X.K Γ W (.cmp o a b)) :=
  imE (pe_cmpR B.run ha hb hm) fun σ H Q q => by
    obtain ⟨β, ρ, h, c, ds, h', ee, ok, e, p⟩ := q
    simp only [ev] at e
    exact two_x (k := fun _ _ => tE C X.K a) ee ok e (fun _ _ _ => cmpV_exc) p
theorem xt_cmp {o : Cop} {op : CmpOp} {rr : R2} {a b : E} {pa pb : Expr} {pos : Pos} (B : CopR X op o rr) (ha : PE X pa (tEX C X.K Γ W true a)) (hb : PE X pb (tEX C X.K Γ W true b)) (hm : behindInMarks op pb = false) : PT X (.Compare pa [op] [pb] pos) (tXT C X.K Γ W (.cmp o a b)) :=
  imT (pt_cmpR B.run ha hb hm) fun σ H Q q => by
    obtain ⟨β, ρ, h, c, ds, h', ee, ok, e, p⟩ := q
    simp only [tst] at e
    rcases bind_exc e with e | ⟨_, _, _, e⟩
    · simp only [ev] at e
      exact two_x (k := fun _ _ => tE C X.K a) ee ok e (fun _ _ _ => cmpV_exc) p
    · exact absurd e opt_exc
theorem x_idx {a i : E} {pa pi : Expr} {pos : Pos} (ha : PE X pa (tEX C X.K Γ W true a)) (hi : PE X pi (tEX C X.K Γ W true i)) (hs : PlainIx pi) : PE X (.Subscript pa pi pos) (tX C X.K Γ W (.idx a i)) :=
  imE (pe_ix ix_seq ha hi hs) fun σ H Q q => by
    obtain ⟨β, ρ, h, c, ds, h', ee, ok, e, p⟩ := q
    simp only [ev] at e
    exact two_x (k := fun _ _ => tE C X.K a) ee ok e (fun _ _ _ => idxV_exc) p
theorem x_tup {es : Es} {pes : List Expr} {n : Nat} {pos : Pos} (ha : PA X pes (tXA C X.K Γ W es)) : PE X (.Tuple pes n pos) (tX C X.K Γ W (.tup es)) :=
  imE (pe_tup ha) fun σ H Q q => by
    obtain ⟨β, ρ, h, c, ds, h', ee, ok, e, p⟩ := q
    simp only [ev] at e
    rcases bind_exc e with e1 | ⟨rs, h1, e1, e⟩
    · exact ⟨β, ρ, h, c, ds, h', ee, ok, e1, p⟩
    · cases eb : boxAll h1 rs with
      | mk ds h3 =>
        rw [eb] at e
        exact absurd e when_exc
theorem xs_cons {e : E} {es : Es} {pe : Expr} {pes : List Expr} (he : PE X pe (tEX C X.K Γ W true e)) (hes : PA X pes (tAX C X.K Γ W true es)) (hs : starEach (pe :: pes) X.env = (false, eval pe X.env) :: starEach pes X.env) : PA X (pe :: pes) (tXA C X.K Γ W (.cons e es)) :=
  imA (pa_cons he hes hs) fun σ H Q q => by
    obtain ⟨β, ρ, h, c, ds, h', ee, ok, e0, p⟩ := q
    simp only [evs] at e0
    rcases bind_exc e0 with e1 | ⟨r1, h1, e1, e0⟩
    · exact .inr ⟨rfl, β, ρ, h, c, ds, h', ee, ok, e1, p⟩
    · rcases bind_exc e0 with e2 | ⟨rs, h2, e2, e0⟩
      · exact .inl (oneE ee ok e1 fun v H1 β1 F ok1 ee1 x1 R1 f1 => .inr ⟨rfl, β1, ρ, h1, c, ds, h', ee1, ok1, e2, p.later ok1 x1⟩)
      · cases e0
theorem x_ife {t a b : E} {pt pa pb : Expr} {pos : Pos} (ht : PT X pt (tTX C X.K Γ W true t)) (ha : PE X pa (tX C X.K Γ W a)) (hb : PE X pb (tX C X.K Γ W b)) : PE X (.IfExp pt pa pb pos) (tX C X.K Γ W (.ife t a b)) :=
  imE (pe_ifExp ht ha hb) fun σ H Q q => by
    obtain ⟨β, ρ, h, c, ds, h', ee, ok, e0, p⟩ := q
    simp only [ev] at e0
    rcases bind_exc e0 with e1 | ⟨b0, h1, e1, e0⟩
    · exact .inr ⟨rfl, β, ρ, h, c, ds, h', ee, ok, e1, p⟩
    · refine .inl (oneT ee ok e1 fun H1 β1 ok1 ee1 x1 => ?_)
      cases b0 with
      | true => exact iteT ⟨β1, ρ, h1, c, ds, h', ee1, ok1, e0, p.later ok1 x1⟩
      | false => exact iteF ⟨β1, ρ, h1, c, ds, h', ee1, ok1, e0, p.later ok1 x1⟩
theorem xt_not {a : E} {pa : Expr} {pos : Pos} (ha : PT X pa (tXT C X.K Γ W a)) : PT X (.UnaryOp .Not pa pos) (tXT C X.K Γ W (.not a)) :=
  imT (pt_not ha) fun σ H Q q => by
    obtain ⟨β, ρ, h, c, ds, h', ee, ok, e0, p⟩ := q
    simp only [tst] at e0
    rcases bind_exc e0 with e1 | ⟨b0, h1, e1, e0⟩
    · exact ⟨β, ρ, h, c, ds, h', ee, ok, e1, p⟩
    · cases e0
theorem xt_plain {e : E} {pe : Expr} (pl : e.plainT = true) (he : PE X pe (tX C X.K Γ W e)) (hp : ∀ whole, isTrue pe X.env whole = (do let v ← whole; standAt pe.pos; holding [v] (truthy v))) : PT X pe (tXT C X.K Γ W e) :=
  imT (pt_truth he hp) fun σ H Q q => by
    obtain ⟨β, ρ, h, c, ds, h', ee, ok, e0, p⟩ := q
    rw [tst_plain pl] at e0
    rcases bind_exc e0 with e1 | ⟨b0, h1, e1, e0⟩
    · exact ⟨β, ρ, h, c, ds, h', ee, ok, e1, p⟩
    · exact absurd e0 opt_exc
theorem xboth {e : E} {t : Bool} {pe : Expr} (q : PE X pe (tX C X.K Γ W e)) (pl : e.plainT = true) (hp : ∀ whole, isTrue pe X.env whole = (do let v ← whole; standAt pe.pos; holding [v] (truthy v))) : (t = false → PE X pe (tX C X.K Γ W e)) ∧ (t = true → PT X pe (tXT C X.K Γ W e)) :=
  ⟨fun _ => q, fun _ => xt_plain pl q hp⟩
theorem xb1_read {rr : List V → AHp → VK → Prop} {b : B1} {a : E} (σ : St) (H : AHp) (Q : VK) (q : tX C X.K Γ W (.b1 b a) σ H Q) : tCB rr (tXA C X.K Γ W (.cons a .nil)) σ H Q := by
  obtain ⟨β, ρ, h, c, ds, h', ee, ok, e, p⟩ := q
  simp only [ev] at e
  rcases bind_exc e with e1 | ⟨r1, h1, e1, e⟩
  · exact ⟨β, ρ, h, c, ds, h', ee, ok, by simp only [evs, e1, R.bind], p⟩
  · exact absurd e b1V_exc
theorem x_b1B {b : B1} {id : String} {x : Str} {rr : List V → AHp → VK → Prop} {a : E} {pa : Expr} {pp pos : Pos} (B : B1R X (.builtin id) b rr) (hg : Gl X x) (hm : X.mg x = none) (hv : bootBuiltins x = some (.builtin id)) (ha : PA X [pa] (tXA C X.K Γ W (.cons a .nil)))
    (hs : starEach [pa] X.env = (false, eval pa X.env) :: starEach [] X.env) (hn : x ≠ "__name__") (hd : (x == ("__debug__" : Str)) = false) : PE X (.Call (.Name x pp) [pa] [] pos) (tX C X.K Γ W (.b1 b a)) :=
  imE (pe_callB B.run hg hm hv ha hn hd hs rfl) xb1_read
theorem x_b1T {b : B1} {T : String} {x : Str} {rr : List V → AHp → VK → Prop} {a : E} {pa : Expr} {pp pos : Pos} (B : B1R X (.type T) b rr) (hg : Gl X x) (hm : X.mg x = none) (hv : bootBuiltins x = some (.type T)) (ha : PA X [pa] (tXA C X.K Γ W (.cons a .nil)))
    (hs : starEach [pa] X.env = (false, eval pa X.env) :: starEach [] X.env) (hn : x ≠ "__name__") (hd : (x == ("__debug__" : Str)) = false) : PE X (.Call (.Name x pp) [pa] [] pos) (tX C X.K Γ W (.b1 b a)) :=
  imE (pe_callTy B.run hg hm hv ha hn hd hs rfl) xb1_read
/-! ### calls -/
theorem ExcR.free {β' : List Addr} {c : Nat} {ds : List D} {cls : Value} {d : Option Addr} (f : D.frees ds = true) (x : ExcR Γ K β H c ds cls d) : ExcR Γ K β' H c ds cls d := by
  obtain ⟨Ca, fs, e1, e2, q⟩ := x
  refine ⟨Ca, fs, e1, e2, ?_⟩
  rcases q with q | ⟨a, vs, q1, q2, q3, q4, q5, q6⟩
  · exact .inl q
  · exact .inr ⟨a, vs, q1, q2, q3, q4, q5, Rels.free ds vs f q6⟩
theorem call_exc {f np : Nat} {rs : List Rv} {vs : List V} {F : List Addr} {E : XK} {c : Nat} {es : List D} (hl : rs.length = np) (ok : HpOk K β1 H1 h1) (x1 : Ext β H β1 H1) (R1 : RelRs K β1 H1 rs vs F) (nd : F.Nodup) (f1 : ∀ a ∈ F, a ∉ β1 ∧ H a = none)
    (e : callV C f rs h1 = .exc c es h') (p : PostX Γ K β H h' c es E) : spC C Γ K f np vs H1 Q E := by
  refine ⟨by rw [R1.length, hl], ?_⟩
  have shared : (match boxAll h1 rs with | (ds, h3) => C f ds h3) = .exc c es h' → ∃ β h ds, HpOk K β H1 h ∧ Rels K β H1 ds vs ∧ ((∃ r h', C f ds h = .ok r h' ∧ PostR K β H1 h' r Q) ∨ ∃ c es h', C f ds h = .exc c es h' ∧ PostX Γ K β H1 h' c es E) := fun e => by
    cases eb : boxAll h1 rs with
    | mk ds h3 =>
      simp only [eb] at e
      obtain ⟨ok3, q3⟩ := boxAll_ok ok R1 nd (fun a m => (f1 a m).1) eb
      exact ⟨β1 ++ F, h3, ds, ok3, q3, .inr ⟨c, es, h', e, PostX.later ok3 (ext_box x1 fun a m => (f1 a m).2) p⟩⟩
  unfold callV at e
  split at e
  · rename_i fr
    cases eb : boxAll [] rs with
    | mk ds h0 =>
      simp only [eb] at e
      obtain ⟨ok0, q0⟩ := boxAll_ok (β := []) (h := []) HpOk.nil (R1.free fr) nd (fun a m mb => by cases mb) eb
      rw [List.nil_append] at ok0 q0
      split at e
      · rename_i r9 hc ec
        split at e
        · cases e
        · exact shared e
      · rename_i c9 es9 hc ec
        split at e
        · rename_i fe
          have z1 : c9 = c := by cases e; rfl
          have z2 : es9 = es := by cases e; rfl
          have z3 : h1 = h' := by cases e; rfl
          subst z1 z2 z3
          refine ⟨F, h0, ds, ok0, q0, .inr ⟨c9, es9, hc, ec, fun cls d H2 β2 ok2 x2 er => ?_⟩⟩
          have k0 := Kp.of ok0 x2
          have k1 : Kp K β1 H1 β1 H2 := ⟨k0.tup, k0.rol, fun _ _ z => z⟩
          have nF : ∀ a ∈ β1, a ∉ F := fun a m mf => (f1 a mf).1 m
          have ok9 : HpOk K β1 H2 h1 := ⟨ok.len, ok.nd, fun n o q => by
            obtain ⟨a, ea, x⟩ := ok.obj n o q
            exact ⟨a, ea, x.mono k1 fun o2 q2 => x2.fr a o2 q2 (nF a (List.mem_of_getElem? ea))⟩⟩
          have x9 : Ext β H β1 H2 := ⟨fun a o ea na => x2.fr a o (x1.fr a o ea na) (fun mf => by rw [(f1 a mf).2] at ea; cases ea), x1.nw, x1.pre⟩
          exact p cls d H2 β1 ok9 x9 (er.free fe)
        · exact shared e
      · cases e
  · exact shared e
theorem runX {Cc : CXT} {n : Nat} {fa : Addr} {fd : FuncData} {ps : List Str} {sp : Sp} {E : XK} {pins : List (Addr × Obj)} {σ : St} {H : AHp} {s : Shared} {Q : VK} {us : List Value} {vs : List V} (F : FnG X.prog X.w X.K X.mg X.base Cc n fa fd ps sp) (hg : X.A.guards = some []) (hr : Room n X.A) (hb : Binds X.K fd ps []) (hx : ∀ (H : AHp) (s : Shared) (e : Value) (s' : Shared), Inv X pins σ H s → Cc X.stack H s E e s' → X.xe e s')
    (I : Inv X pins σ H s) (rv : Vals vs us) (h : sp vs H Q E) : wpAny (model X.prog X.w) X.A (call (.ref fa) us) (EP X pins σ Q) X.xe s := by
  have hl : us.length = ps.length := by rw [← rv.length]; exact F.len _ _ _ _ h
  have bt : BindsTo s fd ⟨us, []⟩ (ps.zip us) := by simpa using hb s us I.kIn (by simpa using hl)
  refine wpAny_call (codeAny_mono (F.run X.A X.stack s H ⟨us, []⟩ us vs Q E hg hr I.env0 bt rv h) fun res s9 hq => ?_)
  match res, hq with
  | .error e, hq => exact hx H s e s9 I hq
  | .ok (.ret u), hq => exact I.after hq
end
section
variable {c : Cfg} {C : Nat → List D → Hp → R Rv} {Γ : Gam} {W : WX} {k : Nat}
theorem x_call {p : Pl} {X : Cx} (f : Fits c C Γ k p X) (tk : Takes X W) {g : Nat} {x : Str} {es : Es} {pes : List Expr} {pp pos : Pos} (hg : Gl X x) (hn : okName x = true) (hf : c.fns.lookup g = some (x, es.len)) (ha : PA X pes (tAX C X.K Γ W true es)) (hs : pes.all noStar = true) (h0 : pes = [] → es = .nil) :
    PE X (.Call (.Name x pp) pes [] pos) (tX C X.K Γ W (.call g es)) := by
  obtain ⟨fa, fd, ps, F, hm, hk, hb⟩ := f.call g x es.len hf
  obtain ⟨hd, _, _⟩ := okName_d hn
  have pass : ∀ (pins : List (Addr × Obj)) (σ : St) (H : AHp) (s : Shared) (e : Value) (s' : Shared), Inv X pins σ H s → CX X.prog X.w X.stack H s (fun cls d H' => W cls d σ H') e s' → X.xe e s' :=
    fun pins σ H s e s' I q => tk e s' (XE.of_call I (fun _ _ _ z => z) q)
  cases pes with
  | nil =>
    have e0 := h0 rfl
    subst e0
    refine ⟨fun pins s σ H Q I q => wpAny_Call_Name_kw (ld_glob I hg hm (PySem.W.callWith_K0 I.kIn hk (runX (E := fun cls d H' => W cls d σ H') (us := []) (vs := []) F f.gd f.room hb (pass pins σ) I .nil ?_)) hd)⟩
    obtain ⟨β, ρ, h, cc, ds, h', ee, ok, e, p⟩ := q
    simp only [ev, evs, R.bind] at e
    exact call_exc (rs := []) (F := []) rfl ok Ext.refl ⟨rfl, rfl⟩ List.nodup_nil (fun _ m => nomatch m) e p
  | cons pe pes =>
    rw [List.all_cons, Bool.and_eq_true] at hs
    refine ⟨fun pins s σ H Q I q => wpAny_Call_Name_kw (ld_glob I hg hm (PySem.W.callWith_K (h₀ := X.base) I.ok.mod.kin hk (thn (ha.run pos pins s σ H (fun vs H1 => spC C Γ X.K g es.len vs H1 Q fun cls d H' => W cls d σ H') I ?_) fun us s7 ⟨vs, H7, I7, r7, q7⟩ => ⟨I7.kIn, runX (E := fun cls d H' => W cls d σ H') F f.gd f.room hb (pass pins σ) I7 r7 q7⟩) (star_of hs.1) (back_of pes hs.2)) hd)⟩
    obtain ⟨β, ρ, h, cc, ds, h', ee, ok, e, p⟩ := q
    simp only [ev] at e
    rcases bind_exc e with e1 | ⟨rs, h1, e1, e⟩
    · exact .inr ⟨rfl, β, ρ, h, cc, ds, h', ee, ok, e1, p⟩
    · exact .inl ⟨β, ρ, h, rs, h1, ee, ok, e1, fun vs H1 β1 F1 ok1 x1 R1 nd f1 => call_exc (by rw [evs_length es ρ h e1]) ok1 x1 R1 nd f1 e p⟩
theorem xb1_of {p : Pl} {X : Cx} (f : Fits c C Γ k p X) {b : B1} {a : E} {pa : Expr} {pp pos : Pos} (hg : Gl X b.nm) (hm : X.mg b.nm = none) (ha : PA X [pa] (tXA C X.K Γ W (.cons a .nil))) (hs : starEach [pa] X.env = (false, eval pa X.env) :: starEach [] X.env) :
    PE X (.Call (.Name b.nm pp) [pa] [] pos) (tX C X.K Γ W (.b1 b a)) ∨ b = .dict := by
  have hc := f.calm
  cases b with
  | dict => exact .inr rfl
  | len => exact .inl (x_b1B b1_len hg hm (by decide +kernel) ha hs (by decide) (by decide))
  | int => exact .inl (x_b1T b1_int hg hm (by decide +kernel) ha hs (by decide) (by decide))
  | abs => exact .inl (x_b1B b1_abs hg hm (by decide +kernel) ha hs (by decide) (by decide))
  | sum => exact .inl (x_b1B (b1_sum hc) hg hm (by decide +kernel) ha hs (by decide) (by decide))
  | all => exact .inl (x_b1B (b1_all hc) hg hm (by decide +kernel) ha hs (by decide) (by decide))
  | any => exact .inl (x_b1B (b1_any hc) hg hm (by decide +kernel) ha hs (by decide) (by decide))
  | ord => exact .inl (x_b1B b1_ord hg hm (by decide +kernel) ha hs (by decide) (by decide))
  | str => exact .inl (x_b1T b1_str hg hm (by decide +kernel) ha hs (by decide) (by decide))
  | repr => exact .inl (x_b1B (b1_repr f.gd f.u) hg hm (by decide +kernel) ha hs (by decide) (by decide))
  | tuple => exact .inl (x_b1T b1_tuple hg hm (by decide +kernel) ha hs (by decide) (by decide))
  | list => exact .inl (x_b1T (b1_list hc) hg hm (by decide +kernel) ha hs (by decide) (by decide))
  | sorted => exact .inl (x_b1B b1_sorted hg hm (by decide +kernel) ha hs (by decide) (by decide))
  | min => exact .inl (x_b1B (b1_min hc) hg hm (by decide +kernel) ha hs (by decide) (by decide))
  | max => exact .inl (x_b1B (b1_max hc) hg hm (by decide +kernel) ha hs (by decide) (by decide))
mutual
theorem okX : ∀ (e : E) (t : Bool) (p : Pl) (pe : Expr) (X : Cx), Fits c C Γ k p X → Takes X W → mE c e t p pe = true → xa t e = true → (t = false → PE X pe (tX C X.K Γ W e)) ∧ (t = true → PT X pe (tXT C X.K Γ W e))
  | .c d, t, p, pe, X, f, tk, h, hx => by
    have a : PE X pe (tX C X.K Γ W (.c d)) := xa_never fun ρ h c ds h' => by simp [ev]
    refine ⟨fun _ => a, fun _ => xt_plain rfl a ?_⟩
    simp only [mE] at h
    split at h
    · exact fun _ => rfl
    · cases h
  | .var i, t, p, pe, X, f, tk, h, hx => by
    have a : PE X pe (tX C X.K Γ W (.var i)) := xa_never fun ρ h c ds h' e => by
      simp only [ev] at e
      split at e <;> cases e
    refine ⟨fun _ => a, fun _ => xt_plain rfl a ?_⟩
    simp only [mE] at h
    split at h
    · exact fun _ => rfl
    · cases h
  | .glb i d, t, p, pe, X, f, tk, h, hx => by
    have a : PE X pe (tX C X.K Γ W (.glb i d)) := xa_never fun ρ h c ds h' => by simp [ev]
    refine ⟨fun _ => a, fun _ => xt_plain rfl a ?_⟩
    simp only [mE] at h
    split at h
    · exact fun _ => rfl
    · cases h
  | .not a, t, p, pe, X, f, tk, h, hx => by
    simp only [xa, Bool.and_eq_true] at hx
    obtain ⟨ht, hx⟩ := hx
    subst ht
    simp only [mE] at h
    split at h
    · exact ⟨(fun z => nomatch z), fun _ => xt_not ((okX a true p _ X f tk h hx).2 rfl)⟩
    · cases h
  | .bin o a b, t, p, pe, X, f, tk, h, hx => by
    simp only [xa, Bool.and_eq_true] at hx
    simp only [mE] at h
    split at h
    · simp only [Bool.and_eq_true] at h
      obtain ⟨rr, B⟩ := bop_of (X := X) h.1.1
      exact xboth (x_bin (Γ := Γ) (W := W) B (eorE ((okE a false p _ X f h.1.2).1 rfl) fun _ => (okX a false p _ X f tk h.1.2 hx.1).1 rfl) (eorE ((okE b false p _ X f h.2).1 rfl) fun _ => (okX b false p _ X f tk h.2 hx.2).1 rfl)) rfl (fun _ => rfl)
    · cases h
  | .cmp o a b, t, p, pe, X, f, tk, h, hx => by
    simp only [xa, Bool.and_eq_true] at hx
    simp only [mE] at h
    split at h
    · simp only [Bool.and_eq_true, Bool.not_eq_true'] at h
      obtain ⟨rr, B⟩ := cop_of (X := X) f.u65 h.1.1.1
      have q1 := eorE (Γ := Γ) (W := W) (b := true) ((okE a false p _ X f h.1.1.2).1 rfl) fun _ => (okX a false p _ X f tk h.1.1.2 hx.1).1 rfl
      have q2 := eorE (Γ := Γ) (W := W) (b := true) ((okE b false p _ X f h.1.2).1 rfl) fun _ => (okX b false p _ X f tk h.1.2 hx.2).1 rfl
      exact ⟨fun _ => x_cmp B q1 q2 h.2, fun _ => xt_cmp B q1 q2 h.2⟩
    · cases h
  | .idx a i, t, p, pe, X, f, tk, h, hx => by
    simp only [xa, Bool.and_eq_true] at hx
    simp only [mE] at h
    split at h
    · simp only [Bool.and_eq_true] at h
      have q1 := eorE (Γ := Γ) (W := W) (b := true) ((okE a false p _ X f h.1.1).1 rfl) fun _ => (okX a false p _ X f tk h.1.1 hx.1).1 rfl
      have q2 := eorE (Γ := Γ) (W := W) (b := true) ((okE i false p _ X f h.1.2).1 rfl) fun _ => (okX i false p _ X f tk h.1.2 hx.2).1 rfl
      exact xboth (x_idx q1 q2 (ix_of h.2)) rfl (fun _ => rfl)
    · cases h
  | .tup es, t, p, pe, X, f, tk, h, hx => by
    simp only [xa] at hx
    simp only [mE] at h
    split at h
    · exact xboth (x_tup (okXs es p _ X f tk h hx)) rfl (fun _ => rfl)
    · cases h
  | .call g es, t, p, pe, X, f, tk, h, hx => by
    simp only [xa] at hx
    simp only [mE] at h
    split at h
    · simp only [Bool.and_eq_true] at h
      obtain ⟨⟨⟨h1, h2⟩, h3⟩, h4⟩ := h
      split at h4
      · rename_i q hq
        simp only [Bool.and_eq_true, decide_eq_true_eq] at h4
        obtain ⟨a, b⟩ := q
        have e1 : a = _ := h4.1
        have e2 : b = es.len := h4.2
        subst e1 e2
        obtain ⟨j1, j2, j3, j4⟩ := okEs es p _ X f h3
        exact xboth (x_call f tk (f.gl h1) h2 hq (eorA j1 fun _ => okXs es p _ X f tk h3 hx) j3 (fun z => by
          rw [z] at j4
          cases es with
          | nil => rfl
          | cons _ _ => simp [Es.len] at j4)) rfl (fun _ => rfl)
      · cases h4
    · cases h
  | .ife tt a b, t, p, pe, X, f, tk, h, hx => by
    simp only [xa, Bool.and_eq_true, Bool.not_eq_true'] at hx
    simp only [mE] at h
    split at h
    · simp only [Bool.and_eq_true, Bool.not_eq_true'] at h
      obtain ⟨⟨⟨h1, h2⟩, h3⟩, h4⟩ := h
      obtain ⟨⟨⟨x1, x2⟩, x3⟩, x4⟩ := hx
      exact ⟨fun _ => x_ife (eorT ((okE tt true p _ X f h2).2.1 rfl) fun _ => (okX tt true p _ X f tk h2 x2).2 rfl) ((okX a false p _ X f tk h3 x3).1 rfl) ((okX b false p _ X f tk h4 x4).1 rfl), fun z => by rw [z] at h1; cases h1⟩
    · cases h
  | .neg _, _, _, _, _, _, _, _, hx => by simp [xa] at hx
  | .ch _ _ _ _ _, _, _, _, _, _, _, _, hx => by simp [xa] at hx
  | .ch3 _ _ _ _ _ _ _, _, _, _, _, _, _, _, hx => by simp [xa] at hx
  | .and _ _, _, _, _, _, _, _, _, hx => by simp [xa] at hx
  | .or _ _, _, _, _, _, _, _, _, hx => by simp [xa] at hx
  | .lst _, _, _, _, _, _, _, _, hx => by simp [xa] at hx
  | .dk _ _, _, _, _, _, _, _, _, hx => by simp [xa] at hx
  | .dk0, _, _, _, _, _, _, _, hx => by simp [xa] at hx
  | .dt, _, _, _, _, _, _, _, hx => by simp [xa] at hx
  | .slc _ _ _, _, _, _, _, _, _, _, hx => by simp [xa] at hx
  | .rev _, _, _, _, _, _, _, _, hx => by simp [xa] at hx
  | .rev2 _, _, _, _, _, _, _, _, hx => by simp [xa] at hx
  | .b1 b a, t, p, pe, X, f, tk, h, hx => by
    simp only [xa] at hx
    simp only [mE] at h
    split at h
    · simp only [Bool.and_eq_true] at h
      obtain ⟨⟨⟨h1, h2⟩, h3⟩, h4⟩ := h
      obtain ⟨e1, e2, e3⟩ := f.blt h1
      subst e1
      have q1 := eorE (Γ := Γ) (W := W) (b := true) ((okE a false p _ X f h2).1 rfl) fun _ => (okX a false p _ X f tk h2 hx).1 rfl
      have q2 : PA X [] (tAX C X.K Γ W true .nil) := eorA a_nil fun _ => ⟨fun pos pins s σ H Q I q => by
        obtain ⟨β, ρ, h, c, ds, h', _, _, e, _⟩ := q
        simp [evs] at e⟩
      rcases xb1_of f e2 e3 (xs_cons q1 q2 (star_of h3)) (star_of h3) with q | q
      · exact xboth q rfl (fun _ => rfl)
      · rw [q] at h4; cases h4
    · cases h
  | .opq, _, _, _, _, _, _, _, hx => by simp [xa] at hx
  | .b2 _ _ _, _, _, _, _, _, _, _, hx => by simp [xa] at hx
  | .isi _ _, _, _, _, _, _, _, _, hx => by simp [xa] at hx
  | .mt _ _ _, _, _, _, _, _, _, _, hx => by simp [xa] at hx
  | .lc _ _ _ _ _, _, _, _, _, _, _, _, hx => by simp [xa] at hx
  | .lenS _ _ _ _, _, _, _, _, _, _, _, hx => by simp [xa] at hx
  | .lc2 _ _ _ _ _ _, _, _, _, _, _, _, _, hx => by simp [xa] at hx
theorem okXs : ∀ (es : Es) (p : Pl) (pes : List Expr) (X : Cx), Fits c C Γ k p X → Takes X W → mEs c es p pes = true → xas es = true → PA X pes (tXA C X.K Γ W es)
  | .nil, p, pes, X, f, tk, h, hx => ⟨fun pos pins s σ H Q I q => by
    obtain ⟨β, ρ, h, c, ds, h', _, _, e, _⟩ := q
    simp [evs] at e⟩
  | .cons e es, p, pes, X, f, tk, h, hx => by
    simp only [xas, Bool.and_eq_true] at hx
    simp only [mEs] at h
    cases pes with
    | nil => cases h
    | cons pe r =>
      simp only [Bool.and_eq_true] at h
      obtain ⟨⟨h1, h2⟩, h3⟩ := h
      exact xs_cons (eorE ((okE e false p pe X f h1).1 rfl) fun _ => (okX e false p pe X f tk h1 hx.1).1 rfl) (eorA (okEs es p r X f h3).1 fun _ => okXs es p r X f tk h3 hx.2) (star_of h2)
end
end
end G

/-! X4: raise, try. -/
namespace G
open PySem PySem.Spec L2
open PyProof.Rows hiding St
theorem boxAll_len : ∀ (rs : List Rv) (h : Hp), (boxAll h rs).1.length = rs.length
  | [], h => rfl
  | r :: rs, h => by
    simp only [boxAll]
    cases boxOne h r with
    | mk d h1 =>
      simp only
      have := boxAll_len rs h1
      cases e : boxAll h1 rs with
      | mk ds h2 => rw [e] at this; simp at this; simp [this]
section
variable {c : Cfg} {C : Nat → List D → Hp → R Rv} {Γ : Gam} {W : WX} {k : Nat}
theorem st_rse {p : Pl} {X : Cx} (f : Fits c C Γ k p X) (tk : Takes X W) {j : Nat} {x : Str} {ps : List Str} {st : Bool} {es : Es} {pe : Expr} {pes : List Expr} {pp pos rpos : Pos} (hg : Gl X x) (hn : okName x = true) (hc : c.cls.lookup j = some (x, ps, st)) (hl : ps.length = es.len) (ha : PA X (pe :: pes) (tA C X.K es)) (hs : (pe :: pes).all noStar = true) (hpl : (pe :: pes).length = es.len) :
    PS X (.Raise (some (.Call (.Name x pp) (pe :: pes) [] pos)) none rpos) (tS C X.K Γ W (.rse j es)) := by
  obtain ⟨Ca, fI, B, newId, initId, bmB, fd, cc, cda, sl, eΓ, hm, T, D, xf⟩ := (f.cls j x ps st hc).ex
  rw [List.all_cons, Bool.and_eq_true] at hs
  have hps : ps ≠ [] := fun z => by rw [z] at hl; rw [← hl] at hpl; simp at hpl
  refine imS (ps_raise f.calm tk (pmk_err T D hps f.room ha hg hm (okName_d hn).1 (star_of hs.1) (back_of pes hs.2))) fun En σ H q => ?_
  obtain ⟨β, ρ, h, ee, ok, p⟩ := q
  simp only [ex] at p
  obtain ⟨rs, h1, e1, p⟩ := st_ok p
  cases eb : boxAll h1 rs with
  | mk ds h3 =>
    rw [eb] at p
    refine boxedA ee ok e1 eb fun vs H1 β1 ok1 ee1 x1 q1 => ?_
    have hd : ds.length = ps.length := by
      have z := boxAll_len rs h1
      rw [eb] at z
      rw [z, evs_length es ρ h e1, hl]
    refine ⟨by rw [← hd, q1.length], fun s0 => ?_, fun s1 d hd0 => ?_⟩
    · subst s0
      exact p σ (.ref Ca) none H1 β1 ok1 ee1 x1 ⟨Ca, [], eΓ, rfl, .inl ⟨rfl, rfl⟩⟩
    · subst s1
      have y : Ext β1 H1 β1 (upd H1 d (.xd (ps.zip vs).reverse)) := Ext.new hd0
      have kp := Kp.of ok1 y
      exact p σ (.ref Ca) (some d) _ β1 (ok1.new hd0) (ee1.mono kp) (x1.trans y) ⟨Ca, ps, eΓ, rfl, .inr ⟨d, vs, hps, hd.symm, (List.nodup_cons.mp D.nd).2, rfl, upd_same, q1.mono kp _ _⟩⟩
end
/-! ### clauses with and without a name -/
/-- what the clauses wish of an exception of the body, one after the other; i: the slot of its name -/
def wMix (n : Nat) (K : Frag) (Wout : WX) (D : Ends) : List (Value × Option Nat × (Addr → Value → Option Addr → TS)) → WX
  | [] => Wout
  | (v, none, ts) :: r => fun cls d σ H => ∃ b, PySem.W.exmOne K cls v = some b ∧ (b = true → ∀ a, H a = none → σ.length = n → ts a cls d D σ H) ∧ (b = false → wMix n K Wout D r cls d σ H)
  | (v, some i, ts) :: r => fun cls d σ H => ∃ b, PySem.W.exmOne K cls v = some b ∧
      (b = true → ∀ a, H a = none → σ.length = n → ts a cls d { nx := fun σ' H' => D.nx (σ'.set i none) H', rt := D.rt, bk := fun σ' H' => D.bk (σ'.set i none) H', ct := fun σ' H' => D.ct (σ'.set i none) H' } (σ.set i (some (.ref a))) H) ∧ (b = false → wMix n K Wout D r cls d σ H)
inductive MixOk (X : Cx) : List ExceptHandler → List (Value × Option Nat × (Addr → Value → Option Addr → TS)) → Prop
  | nil : MixOk X [] []
  | plain {x : Str} {v : Value} {ts : Addr → Value → Option Addr → TS} {s0 : Stmt} {su : List Stmt} {np hp : Pos} {phs : List ExceptHandler} {l : List (Value × Option Nat × (Addr → Value → Option Addr → TS))} (hc : Names X x v)
      (go : ∀ (a : Addr) (oe : Obj) (cls : Value) (d : Option Addr) (pn : List (Addr × Obj)), Zc cls d oe → (∃ vs, oe.data = .fields vs) → PSs (X.suite a ((a, oe) :: pn)) (s0 :: su) (ts a cls d)) (r : MixOk X phs l) :
      MixOk X (.ExceptHandler (some (.Name x np)) none (s0 :: su) hp :: phs) ((v, none, ts) :: l)
  | named {x n : Str} {i : Nat} {v : Value} {ts : Addr → Value → Option Addr → TS} {s0 : Stmt} {su : List Stmt} {np hp : Pos} {phs : List ExceptHandler} {l : List (Value × Option Nat × (Addr → Value → Option Addr → TS))} (hc : Names X x v) (hN : X.N.Nodup) (hi : X.N[i]? = some n) (hk : X.env.kindOf n = some .local)
      (go : ∀ (a : Addr) (oe : Obj) (cls : Value) (d : Option Addr) (pn : List (Addr × Obj)), Zc cls d oe → (∃ vs, oe.data = .fields vs) → PSs (X.suite a ((a, oe) :: pn)) (s0 :: su) (ts a cls d)) (r : MixOk X phs l) :
      MixOk X (.ExceptHandler (some (.Name x np)) (some n) (s0 :: su) hp :: phs) ((v, some i, ts) :: l)
section
variable {X : Cx} {body : List Stmt} {ph : ExceptHandler} {phs : List ExceptHandler} {l : List (Value × Option Nat × (Addr → Value → Option Addr → TS))} {pos : Pos} {tb : WX → TS} {Wout : WX}
theorem ps_try_mix (hs : X.stack = X.env :: X.outer) (hf : X.env.frame = some X.env.locals) (tk : Takes X Wout)
    (hb : ∀ (W : WX) (pn : List (Addr × Obj)) (xe : Value → Shared → Prop), Takes (X.tr pn xe) W → PassesOwn (model X.prog X.w) X.A X.env xe → PSs (X.tr pn xe) body (tb W))
    (hh : MixOk X (ph :: phs) l) : PS X (.Try body (ph :: phs) [] [] pos) (fun D σ H => tb (wMix X.N.length X.K Wout D l) D σ H) := by
  refine ⟨fun pins s σ H D I h => ?_⟩
  have ok := I.ok
  have frm : X.A.frames = some (X.env :: X.outer) := by rw [ok.frames, hs]
  refine wpAny_Try_except ?_
  refine wpAny_mono ((hb (wMix X.N.length X.K Wout D l) (X.pn ++ pins) (fun e s1 => wpAny (model X.prog X.w) X.A (noteFrame e X.env) (fun _ s2 => wpAny (model X.prog X.w) X.A (setFlight e none) (fun _ s3 =>
    wpAny (model X.prog X.w) X.A (handleBy e X.env (ph :: phs)) (SP X pins D) X.xe s3) X.xe s2) X.xe s1) (fun u s' xx => ?_) PassesOwn.looking).run [] s σ H D (I.toTry _) h) (fun fl s1 hsp => ?_) (fun e s1 he => he)
  · obtain ⟨a, B, sI, pins', σ', H', cls, d, rfl, J', nb, up, sky, na, os, ag, w⟩ := xx
    have J : Inv X pins σ' H' sI := J'.ofTry ok
    have sky' : Sky B (X.env :: X.outer) a (Zc cls d) X.env.locals s'.heap := by rw [← hs]; exact sky
    show wpAny (model X.prog X.w) X.A (noteFrame (.ref a) X.env) _ _ _
    refine Sky.land Zc.steady frm hf sky' fun h3 fl3 up3 => ?_
    have J3 : Inv X pins σ' H' { s' with heap := h3 } := J.landed nb fl3.1 (up.trans up3) os ag
    obtain ⟨oe3, vs3, he3, hz3, hd3⟩ := fl3.there
    have nfr : a ∉ frs (X.env :: X.outer) := fun hm => by
      obtain ⟨_, o', e', hnf⟩ := fl3.2.2.1.mem hm
      rw [he3] at e'
      cases e'
      exact hnf _ hd3
    have nL : a ≠ X.env.locals := fun z => nfr (List.mem_filterMap.mpr ⟨X.env, List.mem_cons_self, by rw [hf, z]⟩)
    have nF : a ∉ X.fs := fun hm => by
      obtain ⟨e, he, q⟩ := List.mem_filterMap.mp hm
      exact nfr (List.mem_filterMap.mpr ⟨e, List.mem_cons_of_mem _ he, q⟩)
    have S3 := J3.suite he3 hd3 na nL nF
    have test : ∀ {x : Str} {v : Value} {np : Pos} {Q : Value → Shared → Prop} {E : Value → Shared → Prop}, Names X x v → Q v { s' with heap := h3 } → wpAny (model X.prog X.w) (X.A.mark (some (.ref a))) (eval (.Name x np) X.env) Q E { s' with heap := h3 } := fun {x v np Q E} hc q => by
      obtain ⟨hg, hdbg, hm | ⟨hm, hv, hnn⟩⟩ := hc
      · exact ld_glob (X := X.suite a ((a, oe3) :: (X.pn ++ pins))) S3 hg hm q hdbg
      · exact ld_blt (X := X.suite a ((a, oe3) :: (X.pn ++ pins))) S3 hg hm hv q hnn hdbg
    have LT : PySem.W.Looks (model X.prog X.w) h3 (typeOf (.ref a)) cls := fun A Q E s k q => wpAny_typeOf_ref (k _ _ he3) (by rw [hz3.1]; exact q)
    have walk : ∀ {phs' : List ExceptHandler} {l' : List (Value × Option Nat × (Addr → Value → Option Addr → TS))}, MixOk X phs' l' → wMix X.N.length X.K Wout D l' cls d σ' H' →
        wpAny (model X.prog X.w) X.A (handleBy (.ref a) X.env phs') (SP X pins D) X.xe { s' with heap := h3 } := by
      intro phs' l' hk
      induction hk with
      | nil =>
        intro w
        refine wpAny_handleBy_nil ?_
        obtain ⟨_, _, _, oe, vs, T, _, _, he, _, hd, h1, _⟩ := id fl3
        unfold PySem.passOn
        refine wpAny_bind (wpAny_field he hd h1 ?_)
        rw [if_neg (show ¬ ((Value.ref T == Value.none) = true) from by simp)]
        have fin : wpAny (model X.prog X.w) X.A (setFlight (.ref a) X.env.frame) (fun _ s4 => wpAny (model X.prog X.w) X.A (throw (.ref a) : Sem Flow) (SP X pins D) X.xe s4) X.xe { s' with heap := h3 } := by
          rw [hf]
          refine HandSPX.setFlight_upZ fl3 fun h4 hh4 up4 => wpAny_throw (tk _ _ ?_)
          exact ⟨a, B, sI, pins, σ', H', cls, d, rfl, J, nb, (up.trans up3).trans up4, .inr (.inr (by rw [hs]; exact hh4)), na, os, ag, w⟩
        first
          | exact wpAny_bind (wpAny_pure (wpAny_bind fin))
          | exact wpAny_bind fin
      | @plain x v ts s0 su np hp phs2 l2 hc go r ih =>
        intro w
        obtain ⟨b, hb1, hyes, hno⟩ := w
        refine wpAny_handleBy_cons (codeAny_handlers_test ?_) (by intro q; cases q)
        refine test hc ((PySem.W.exm_one (M := model X.prog X.w) (J3.kIn) LT hb1).here ?_)
        cases b with
        | false => exact ih (hno rfl)
        | true =>
          refine codeAny_handlers_suite (HandSPX.lands_againZ fl3 fun h4 fl4 up4 => ?_)
          have J4 : Inv X pins σ' H' { s' with heap := h4 } := J.landed nb fl4.1 ((up.trans up3).trans up4) os ag
          obtain ⟨oe4, vs4, he4, hz4, hd4⟩ := fl4.there
          have S4 := J4.suite he4 hd4 na nL nF
          refine wpAny_mono ((go a oe4 cls d (X.pn ++ pins) hz4 ⟨_, hd4⟩).run [] _ _ H' _ S4 (hyes rfl a na J4.len)) (fun fl s6 hsp => ?_) (fun _ _ z => False.elim z)
          cases fl with
          | ret u =>
            obtain ⟨v6, σ6, H6, S6, r6, q6⟩ := hsp
            exact ⟨_, _, _, S6.unsuite ok, r6, q6⟩
          | _ =>
            obtain ⟨σ6, H6, S6, q6⟩ := hsp
            exact ⟨_, _, S6.unsuite ok, q6⟩
      | @named x n i v ts s0 su np hp phs2 l2 hc hN hi hk go r ih =>
        intro w
        obtain ⟨b, hb1, hyes, hno⟩ := w
        refine wpAny_handleBy_cons (codeAny_handlers_test ?_) (by intro q; cases q)
        refine test hc ((PySem.W.exm_one (M := model X.prog X.w) (J3.kIn) LT hb1).here ?_)
        cases b with
        | false => exact ih (hno rfl)
        | true =>
          refine codeAny_handlers_suite_as (HandSPX.lands_againZ fl3 fun h4 fl4 up4 => ?_)
          have J4 : Inv X pins σ' H' { s' with heap := h4 } := J.landed nb fl4.1 ((up.trans up3).trans up4) os ag
          obtain ⟨oe4, vs4, he4, hz4, hd4⟩ := fl4.there
          have S4 := J4.suite he4 hd4 na nL nF
          refine store_ok (X := X.suite a ((a, oe4) :: (X.pn ++ pins))) (v := .ref a) S4 hN hi (.inl hk) rfl (fun s5 S5 => ?_) (.inr hk)
          refine wpAny_mono ((go a oe4 cls d (X.pn ++ pins) hz4 ⟨_, hd4⟩).run [] s5 _ H' _ S5 (hyes rfl a na J4.len)) (fun fl s6 hsp => ?_) (fun _ _ z => False.elim z)
          have goes : ∀ {σ6 : St} {H6 : AHp} {Q : Shared → Prop}, Inv (X.suite a ((a, oe4) :: (X.pn ++ pins))) [] σ6 H6 s6 → (∀ s7, Inv X pins (σ6.set i none) H6 s7 → Q s7) →
              wpAny (model X.prog X.w) X.A (do bindName X.env n .none; unbindBehindTheSuite X.env n hp) (fun _ s7 => Q s7) X.xe s6 := fun {σ6 H6 Q} S6 hq => gone_ok (S6.unsuite ok) hN hi hk hq
          cases fl with
          | next =>
            obtain ⟨σ6, H6, S6, q6⟩ := hsp
            exact goes S6 fun s7 J7 => ⟨_, _, J7, q6⟩
          | brk =>
            obtain ⟨σ6, H6, S6, q6⟩ := hsp
            exact goes S6 fun s7 J7 => ⟨_, _, J7, q6⟩
          | cont =>
            obtain ⟨σ6, H6, S6, q6⟩ := hsp
            exact goes S6 fun s7 J7 => ⟨_, _, J7, q6⟩
          | ret u =>
            obtain ⟨v6, σ6, H6, S6, r6, q6⟩ := hsp
            exact goes S6 fun s7 J7 => ⟨_, _, _, J7, r6, q6⟩
    exact walk hh w
  · cases fl with
    | next =>
      obtain ⟨σ', H', J', q⟩ := hsp
      exact wpAny_execs_nil ⟨σ', H', J'.ofTry ok, q⟩
    | ret u =>
      obtain ⟨v, σ', H', J', r, q⟩ := hsp
      exact ⟨v, σ', H', J'.ofTry ok, r, q⟩
    | _ =>
      obtain ⟨σ', H', J', q⟩ := hsp
      exact ⟨σ', H', J'.ofTry ok, q⟩
end
end G

/-! X5: the suites of except clauses. -/
namespace G
open PySem PySem.Spec L2
open PyProof.Rows hiding St
section
variable {K : Frag} {Γ : Gam} {β : List Addr} {H : AHp}
/-- one item of what a suite stores -/
def tHX (K : Frag) (Γ : Gam) (j : Nat) (nm : Option Nat) (a : Addr) (cls : Value) (d : Option Addr) (x : HX) : TE := fun σ H Q => ∃ β ds v, ExcR Γ K β H j ds cls d ∧ hx1 ds x = some v ∧ (∀ i, nm = some i → σ[i]? = some (some (.ref a))) ∧ ∀ v', Rel K β H v v' → Q v' H
def tHXs (K : Frag) (Γ : Gam) (j : Nat) (nm : Option Nat) (a : Addr) (cls : Value) (d : Option Addr) (xs : List HX) : TA := fun σ H Q => ∃ β ds vs, ExcR Γ K β H j ds cls d ∧ hxs ds xs = some vs ∧ (∀ i, nm = some i → σ[i]? = some (some (.ref a))) ∧ ∀ vs', Rels K β H vs vs' → Q vs' H
def tHE (K : Frag) (Γ : Gam) (j : Nat) (nm : Option Nat) (a : Addr) (cls : Value) (d : Option Addr) (e : HE) : TE := fun σ H Q => ∃ β h ds v, HpOk K β H h ∧ ExcR Γ K β H j ds cls d ∧ hev ds e = some v ∧ (∀ i, nm = some i → σ[i]? = some (some (.ref a))) ∧ ∀ v' H' β', HpOk K β' H' h → Ext β H β' H' → Rel K β' H' v v' → Q v' H'
def tHd (K : Frag) (Γ : Gam) (hd : Hd) (a : Addr) (cls : Value) (d : Option Addr) : TS := fun D σ H => ∃ β ρ h ds v, EnvOk K β H σ ρ ∧ HpOk K β H h ∧ ExcR Γ K β H hd.cls ds cls d ∧ hev ds hd.e = some v ∧ (∀ i, hd.nm = some i → σ[i]? = some (some (.ref a))) ∧
  ∀ σ' H' β', HpOk K β' H' h → EnvOk K β' H' σ' (ρ.set hd.slot (some v)) → Ext β H β' H' → D.nx σ' H'
theorem fld_look {fs : List Str} {vs : List V} {k : Nat} {f : Str} {v : V} (nd : fs.Nodup) (hl : fs.length = vs.length) (hf : fs[k]? = some f) (hv : vs[k]? = some v) : (fs.zip vs).reverse.lookup f = some v := by
  rw [zlook_rev _ (by rw [List.map_fst_zip (by omega)]; exact nd)]
  induction fs generalizing vs k with
  | nil => simp at hf
  | cons g fs ih =>
    cases vs with
    | nil => simp at hl
    | cons w vs =>
      rw [List.nodup_cons] at nd
      rw [List.zip_cons_cons, List.lookup_cons]
      cases k with
      | zero =>
        simp at hf hv
        subst hf hv
        simp
      | succ k =>
        have hf' : fs[k]? = some f := by simpa using hf
        have ne : f ≠ g := fun z => nd.1 (z ▸ List.mem_of_getElem? hf')
        rw [show (f == g) = false by simpa using ne]
        exact ih nd.2 (by simpa using hl) hf' (by simpa using hv)
end
section
variable {c : Cfg} {C : Nat → List D → Hp → R Rv} {Γ : Gam} {W : WX} {k : Nat}
theorem hx_ok {p : Pl} {X : Cx} (f : Fits c C Γ k p X) {j : Nat} {x : Str} {ps : List Str} {st : Bool} (hc : c.cls.lookup j = some (x, ps, st)) {nm : Option Nat} (it : HX) (pe : Expr) (h : mHX p (if st then ps else []) nm it pe = true) (a : Addr) (oe : Obj) (cls : Value) (d : Option Addr) (pn : List (Addr × Obj)) (hz : Zc cls d oe) (hd : ∃ vs, oe.data = .fields vs) :
    PE (X.suite a ((a, oe) :: pn)) pe (tHX X.K Γ j nm a cls d it) := by
  cases it with
  | c dv =>
    simp only [mHX] at h
    split at h
    · split at h
      · refine imE pe_non fun σ H Q q => ?_
        obtain ⟨β, ds, v, _, e, _, q⟩ := q
        cases e
        exact q _ mkNon
      · have e1 := eq_of_beq h
        subst e1
        refine imE pe_bl fun σ H Q q => ?_
        obtain ⟨β, ds, v, _, e, _, q⟩ := q
        cases e
        exact q _ (mkBl _)
      · have e1 := of_decide_eq_true h
        subst e1
        refine imE pe_int fun σ H Q q => ?_
        obtain ⟨β, ds, v, _, e, _, q⟩ := q
        cases e
        exact q _ (mkInt _)
      · have e1 := of_decide_eq_true h
        subst e1
        refine imE pe_str fun σ H Q q => ?_
        obtain ⟨β, ds, v, _, e, _, q⟩ := q
        cases e
        exact q _ (mkStr _)
      · cases h
    · cases h
  | fld kk =>
    simp only [mHX] at h
    split at h
    · rename_i e ep fn apos i
      simp only [Bool.and_eq_true, decide_eq_true_eq] at h
      obtain ⟨⟨⟨h1, h2⟩, h3⟩, h4⟩ := h
      obtain ⟨Ca, fI, B, newId, initId, bmB, fd, cc, cda, sl, eΓ, hm, T, Dd, xf⟩ := (f.cls j x ps st hc).ex
      obtain ⟨n1, n2, _⟩ := okName_d h3
      have hst : st = true := by
        cases st with
        | true => rfl
        | false => simp at h4
      subst hst
      simp only [if_true] at h4 eΓ
      have hno : PySem.W.findIn X.K (.ref Ca) fn = some none := Dd.noat rfl fn (List.mem_of_getElem? h4)
      have hi : (X.suite a ((a, oe) :: pn)).N[i]? = some e := by show X.N[i]? = _; rw [f.N]; exact h1
      refine imE (pe_xf xf hno hz hd (pe_var (X := X.suite a ((a, oe) :: pn)) hi (f.vis h2) n1 n2)) fun σ H Q q => ?_
      obtain ⟨β, ds, v, er, e1, hn, q⟩ := q
      obtain ⟨Cb, fs, g1, g2, g3⟩ := er
      rw [eΓ] at g1
      cases g1
      refine ⟨.ref a, hn i rfl, rfl, g2, ?_⟩
      rcases g3 with ⟨g3, _⟩ | ⟨dd, vs, g3, g4, g5, g6, g7, g8⟩
      · rw [g3] at h4; simp at h4
      · have e1' : ds[kk]? = some v := e1
        obtain ⟨v', ev, rv⟩ := g8.get e1'
        exact ⟨dd, _, v', g6, g7, fld_look g5 (by rw [g4, g8.length]) h4 ev, q _ rv⟩
    · cases h
theorem hxs_ok {p : Pl} {X : Cx} (f : Fits c C Γ k p X) {j : Nat} {x : Str} {ps : List Str} {st : Bool} (hc : c.cls.lookup j = some (x, ps, st)) {nm : Option Nat} (a : Addr) (oe : Obj) (cls : Value) (d : Option Addr) (pn : List (Addr × Obj)) (hz : Zc cls d oe) (hd : ∃ vs, oe.data = .fields vs) :
    ∀ (xs : List HX) (pes : List Expr), mHXs p (if st then ps else []) nm xs pes = true → PA (X.suite a ((a, oe) :: pn)) pes (tHXs X.K Γ j nm a cls d xs)
  | [], pes, h => by
    simp only [mHXs] at h
    cases pes with
    | cons _ _ => cases h
    | nil =>
      refine imA pa_nil fun σ H Q q => ?_
      obtain ⟨β, ds, vs, _, e, _, q⟩ := q
      cases e
      exact q [] Rels.nil
  | it :: xs, pes, h => by
    simp only [mHXs] at h
    cases pes with
    | nil => cases h
    | cons pe r =>
      simp only [Bool.and_eq_true] at h
      obtain ⟨⟨h1, h2⟩, h3⟩ := h
      refine imA (pa_cons (hx_ok f hc it pe h1 a oe cls d pn hz hd) (hxs_ok f hc a oe cls d pn hz hd xs r h3) (star_of h2)) fun σ H Q q => ?_
      obtain ⟨β, ds, vs, er, e, hn, q⟩ := q
      simp only [hxs] at e
      cases e1 : hx1 ds it with
      | none => rw [e1] at e; cases e
      | some v =>
        rw [e1] at e
        cases e2 : hxs ds xs with
        | none => rw [e2] at e; cases e
        | some ws =>
          rw [e2] at e
          cases e
          exact ⟨β, ds, v, er, e1, hn, fun v' rv => ⟨β, ds, ws, er, e2, hn, fun vs' rvs => q _ (Rels.cons rv rvs)⟩⟩
theorem he_ok {p : Pl} {X : Cx} (f : Fits c C Γ k p X) {j : Nat} {x : Str} {ps : List Str} {st : Bool} (hc : c.cls.lookup j = some (x, ps, st)) {nm : Option Nat} (it : HE) (pe : Expr) (h : mHE p (if st then ps else []) nm it pe = true) (a : Addr) (oe : Obj) (cls : Value) (d : Option Addr) (pn : List (Addr × Obj)) (hz : Zc cls d oe) (hd : ∃ vs, oe.data = .fields vs) :
    PE (X.suite a ((a, oe) :: pn)) pe (tHE X.K Γ j nm a cls d it) := by
  cases it with
  | one y =>
    simp only [mHE] at h
    refine imE (hx_ok f hc y pe h a oe cls d pn hz hd) fun σ H Q q => ?_
    obtain ⟨β, h, ds, v, ok, er, e, hn, q⟩ := q
    exact ⟨β, ds, v, er, e, hn, fun v' rv => q v' H β ok Ext.refl rv⟩
  | tup xs =>
    simp only [mHE] at h
    split at h
    · simp only [Bool.and_eq_true, decide_eq_true_eq] at h
      refine imE (pe_tup (hxs_ok f hc a oe cls d pn hz hd xs _ h.1)) fun σ H Q q => ?_
      obtain ⟨β, h0, ds, v, ok, er, e, hn, q⟩ := q
      simp only [hev] at e
      cases e2 : hxs ds xs with
      | none => rw [e2] at e; cases e
      | some ws =>
        rw [e2] at e
        cases e
        refine ⟨β, ds, ws, er, e2, hn, fun vs' rvs => ⟨?_, fun t ht => ?_⟩⟩
        · have l1 : ∀ (xs : List HX) (ws : List D), hxs ds xs = some ws → ws.length = xs.length := by
            intro xs
            induction xs with
            | nil => intro ws e; cases e; rfl
            | cons y xs ih =>
              intro ws e
              simp only [hxs] at e
              cases e1 : hx1 ds y with
              | none => rw [e1] at e; cases e
              | some v =>
                rw [e1] at e
                cases e3 : hxs ds xs with
                | none => rw [e3] at e; cases e
                | some us => rw [e3] at e; cases e; simp [ih us e3]
          rw [← rvs.length, l1 xs ws e2, sizeLine_eq]
          omega
        · have y : Ext β H β (upd H t (.tup vs')) := Ext.new ht
          exact q _ _ β (ok.new ht) y (mkTup upd_same (rvs.mono (Kp.of ok y) _ _))
    · cases h
theorem hd_ok {p : Pl} {X : Cx} (f : Fits c C Γ k p X) {hd : Hd} {x : Str} {ps : List Str} {st : Bool} (hc : c.cls.lookup hd.cls = some (x, ps, st)) {y : Str} {pe : Expr} {yp ap : Pos} (h1 : p.N[hd.slot]? = some y) (h2 : p.sc.names.lookup y = some .local) (h3 : mHE p (if st then ps else []) hd.nm hd.e pe = true) (h4 : noComp pe = true)
    (a : Addr) (oe : Obj) (cls : Value) (d : Option Addr) (pn : List (Addr × Obj)) (hz : Zc cls d oe) (hdt : ∃ vs, oe.data = .fields vs) : PSs (X.suite a ((a, oe) :: pn)) [.Assign [.Name y yp] pe ap] (tHd X.K Γ hd a cls d) := by
  have hN : (X.suite a ((a, oe) :: pn)).N.Nodup := by show X.N.Nodup; rw [f.N]; exact f.nd
  have lk : (X.suite a ((a, oe) :: pn)).env.scope.names.lookup y = some .local := by show X.env.scope.names.lookup y = _; rw [f.sc]; exact h2
  refine imSs (pss_cons (ps_set (i := hd.slot) hN (by show X.N[hd.slot]? = _; rw [f.N]; exact h1) (.inl lk) (he_ok f hc hd.e pe h3 a oe cls d pn hz hdt) (by cases pe <;> first | rfl | (cases h4; done)) (.inr lk)) pss_nil) fun D σ H q => ?_
  obtain ⟨β, ρ, h, ds, v, ee, ok, er, e, hn, q⟩ := q
  exact ⟨β, h, ds, v, ok, er, e, hn, fun v' H' β' ok' x' rv => q _ H' β' ok' ((ee.mono (Kp.of ok x')).set rv) x'⟩
end
end G

/-! G21: statements that fit; defs. -/
namespace G
open PySem PySem.Spec L2
section
variable {c : Cfg} {C : Nat → List D → Hp → R Rv} {Γ : Gam} {W : WX} {k : Nat}
theorem swN_ok {env : PySem.Env} {ts vs : List Expr} {kt k2 : Nat} {pt pt2 : Pos} {r : Option (List Str)} (e : swN env.scope ts vs = some r) : swappedStores [.Tuple ts kt pt] (.Tuple vs k2 pt2) env = pure r := by
  unfold swN at e
  unfold swappedStores
  simp only
  cases h1 : sw1 env.scope ts vs with
  | true =>
    rw [h1] at e
    cases e
    exact if_pos h1
  | false =>
    rw [h1] at e
    refine (if_neg (by intro z; exact absurd (h1.symm.trans z) (by decide))).trans ?_
    simp only at e
    cases h2 : sw2 vs with
    | true =>
      rw [h2] at e
      cases e
      exact if_pos h2
    | false =>
      rw [h2] at e
      refine (if_neg (by intro z; exact absurd (h2.symm.trans z) (by decide))).trans ?_
      simp only at e
      cases h3 : sw3 env.scope ts with
      | true =>
        rw [h3] at e
        cases e
        exact if_pos h3
      | false =>
        rw [h3] at e
        refine (if_neg (by intro z; exact absurd (h3.symm.trans z) (by decide))).trans ?_
        simp only at e
        cases h4 : vs.all (foldedForSure 8) with
        | true =>
          rw [h4] at e
          cases e
          exact if_pos rfl
        | false =>
          rw [h4] at e
          refine (if_neg (by decide)).trans ?_
          simp only at e
          cases h5 : vs.all (constantsAlone 8) with
          | true => rw [h5] at e; cases e
          | false =>
            rw [h5] at e
            cases e
            exact if_neg (by decide)
theorem sw_no {pe : Expr} {t : Option Expr} {l : Nat} {env : PySem.Env} (h : noComp pe = true) : swapsWith pe t l env = pure false := by
  cases pe <;> first | rfl | (cases h; done)
theorem sw_sub {pe po pi : Expr} {pos : Pos} {l : Nat} {env : PySem.Env} : swapsWithSole [.Subscript po pi pos] pe l env = pure false := by
  cases pe <;> rfl
theorem asg_sub {po pi : Expr} {pos : Pos} {env : PySem.Env} (h : noSlice pi = true) : ∀ v, assign (.Subscript po pi pos) env v = (do
      let ov ← holding [v] (eval po env)
      let iv ← holding [v, ov] (eval pi env)
      standAt pos
      holding [v, ov, iv] (setItem ov iv v)
      release [v, ov, iv] []) := by
  intro v
  cases pi <;> first | rfl | (cases h; done)
theorem asg_read {K : Frag} {i : Nat} {e : E} {En : Ends} {σ : St} {H : AHp} (hx : xa false e = false) (q : tS C K Γ W (.asg i e) En σ H) : tE C K e σ H fun v H1 => En.nx (σ.set i (some v)) H1 := by
  obtain ⟨β, ρ, h, ee, ok, p⟩ := q
  simp only [ex, hx] at p
  obtain ⟨r1, h1, e1, p⟩ := st_ok p
  refine oneE ee ok e1 fun v H1 β1 F ok1 ee1 x1 R1 f1 => ?_
  cases eb : boxOne h1 r1 with
  | mk d h2 =>
    rw [eb] at p
    obtain ⟨ok2, R2⟩ := boxOne_ok ok1 R1 (fun a m => (f1 a m).1) eb
    exact p _ _ _ ok2 ((ee1.mono kp_append).set R2) (ext_box x1 fun a m => (f1 a m).2)
theorem st_asgLc {p : Pl} {X : Cx} (f : Fits c C Γ k p X) {i : Nat} {x : Str} {py spos : Pos} {own : List Nat} {tg : Tg} {it : It} {cs : Es} {elt : E} {pe : Expr} (hi : p.N[i]? = some x) (h : mE c (.lc own tg it cs elt) false p pe = true) (hw : swC p x py pe = some true) :
    PS X (.Assign [.Name x py] pe spos) (tS C X.K Γ W (.asg i (.lc own tg it cs elt))) := by
  simp only [mE] at h
  split at h
  · simp only [Bool.and_eq_true] at h
    obtain ⟨⟨⟨⟨⟨⟨⟨h1, h2⟩, h8⟩, h3⟩, h4⟩, h5⟩, h6⟩, h7⟩ := h
    obtain ⟨ow, B, eo⟩ := blk_of f h1
    have hN : X.N.Nodup := by rw [f.N]; exact f.nd
    have hsub : ∀ i ∈ tg.slots, i ∈ own := fun i hi => by simpa using List.all_eq_true.mp h5 i hi
    simp only [swC] at hw
    split at hw
    · rename_i hw1
      simp only [Bool.and_eq_true, Bool.not_eq_true'] at hw1
      obtain ⟨⟨⟨w1, w2⟩, w3⟩, w4⟩ := hw1
      have lk : X.env.scope.names.lookup x = some .local := by rw [f.sc]; simpa using w2
      subst eo
      exact imS (ps_setLc (g := tG X.K tg) (tt := tTs C X.K cs) (te := tE C X.K elt) f.calm hN (by rw [f.N]; exact hi) lk (sw_true (by rw [f.sc]; simpa using w1) lk w3 w4) (okI it p _ X f h2 _ h8) B (fun s H a cl fp => tg_of (f.blk _ s H a cl fp) h4) (fun s H a cl fp => okCs cs _ _ _ (f.blk _ s H a cl fp) h6) (fun s H a cl fp => (okE elt false _ _ _ (f.blk _ s H a cl fp) h7).1 rfl) (set_of h3))
        fun En σ H q => lc_read hsub σ H _ (asg_read rfl q)
    · cases hw
  · cases h
theorem swC_no {p : Pl} {x : Str} {py : Pos} {pe : Expr} (h : swC p x py pe = some false) : noComp pe = true := by
  cases pe with
  | ListComp a b s d =>
    simp only [swC] at h
    split at h <;> cases h
  | SetComp a b s d => cases h
  | DictComp a b s d e => cases h
  | _ => rfl
theorem names_local {p : Pl} {X : Cx} (f : Fits c C Γ k p X) {names : List Str} (h : names.all (fun x => p.sc.names.lookup x == some .local) = true) {x : Str} (m : x ∈ names) : X.env.scope.names.lookup x = some .local := by
  rw [f.sc]
  simpa using List.all_eq_true.mp h x m
theorem swN_names {sc : Scope} {ts vs : List Expr} {names : List Str} (h : swN sc ts vs = some (some names)) : names = swNm sc ts ∧ names.length = ts.length := by
  unfold swN at h
  split at h
  · cases h
  · split at h
    · cases h
    · split at h
      · cases h
      · rename_i h3
        split at h
        · cases h
        · split at h
          · cases h
          · cases h
            refine ⟨rfl, ?_⟩
            simp only [sw3, Bool.or_eq_false_iff, bne_eq_false_iff_eq] at h3
            exact h3.1
def nmOf (sc : Scope) (l : Nat) : Expr → Option Str
  | .Name id pos => if sc.names.lookup id == some .local && pos.line == l then some id else none
  | _ => none
theorem fm_full {α β : Type} (g : α → Option β) : ∀ (l : List α) (m : List β), l.filterMap g = m → m.length = l.length → l.map g = m.map some
  | [], m, e, _ => by subst e; rfl
  | a :: l, m, e, hl => by
    rw [List.filterMap_cons] at e
    split at e
    · have := List.length_filterMap_le g l
      rw [e] at this
      simp at hl
      omega
    · rename_i b hb
      subst e
      rw [List.map_cons, List.map_cons, hb, fm_full g l _ rfl (by simpa using hl)]
theorem nm_get {sc : Scope} {l : Nat} {x y : Str} {pos : Pos} (h : nmOf sc l (.Name x pos) = some y) : x = y := by
  simp only [nmOf] at h
  split at h
  · cases h; rfl
  · cases h
theorem st_tup {p : Pl} {X : Cx} (f : Fits c C Γ k p X) (tk : Takes X W) {is : List Nat} {e : E} {ts : List Expr} {pe : Expr} {kt : Nat} {pt pos : Pos} (h1 : namesM p is ts = true) (h2 : mE c e false p pe = true) (h3 : noComp pe = true) (h4 : tupM p is ts pe e = true) :
    PS X (.Assign [.Tuple ts kt pt] pe pos) (tS C X.K Γ W (.asgT is e)) := by
  have hN : X.N.Nodup := by rw [f.N]; exact f.nd
  have na := names_of f is ts h1
  have he := eorE (Γ := Γ) (W := W) (b := xa false e) ((okE e false p pe X f h2).1 rfl) fun z => (okX e false p pe X f tk h2 z).1 rfl
  have hsw : swapsWithSole [.Tuple ts kt pt] pe pos.line X.env = pure false := by
    unfold swapsWithSole
    exact sw_no h3
  unfold tupM at h4
  split at h4
  · rename_i vs k2 pt2
    split at h4
    · rename_i hs
      exact st_asgT f.calm hN na he hsw (swN_ok (by rw [f.sc]; exact hs))
    · rename_i names hs
      obtain ⟨en, el⟩ := swN_names hs
      have hw : swappedStores [.Tuple ts kt pt] (.Tuple vs k2 pt2) X.env = pure (some names) := swN_ok (by rw [f.sc]; exact hs)
      have fm := fm_full (nmOf p.sc ((ts.head?.map (·.pos.line)).getD 0)) ts names (by rw [en]; rfl) el
      split at h4
      · rename_i a b i j
        simp only [Bool.and_eq_true, decide_eq_true_eq] at h4
        obtain ⟨⟨hij, hl⟩, hall⟩ := h4
        obtain ⟨x, px, r, rfl, hx, lx, sx, y, py, r2, rfl, hy, ly, sy, rr⟩ := na
        have rr' : r2 = [] := rr
        subst rr'
        match names, hl, fm, hall, hw with
        | [x', y'], _, fm, hall, hw =>
          simp only [List.map_cons, List.map_nil, List.cons.injEq, and_true] at fm
          have ex := nm_get fm.1
          have ey := nm_get fm.2
          subst ex ey
          simp only [mE] at h2
          obtain ⟨j1, j2, j3, j4⟩ := okEs _ p _ X f h2
          match vs, j4, j1, hw with
          | [v1, v2], _, j1, hw => exact st_par2 f.calm hN hx hy hij (names_local f hall (by simp)) (names_local f hall (by simp)) (eorA j1 fun z => okXs _ p _ X f tk h2 z) hw
      · rename_i a b d i j l
        simp only [Bool.and_eq_true, decide_eq_true_eq] at h4
        obtain ⟨⟨⟨⟨hij, hil⟩, hjl⟩, hl⟩, hall⟩ := h4
        obtain ⟨x, px, r, rfl, hx, lx, sx, y, py, r2, rfl, hy, ly, sy, z, pz, r3, rfl, hz, lz, sz, rr⟩ := na
        have rr' : r3 = [] := rr
        subst rr'
        match names, hl, fm, hall, hw with
        | [x', y', z'], _, fm, hall, hw =>
          simp only [List.map_cons, List.map_nil, List.cons.injEq, and_true] at fm
          have ex := nm_get fm.1
          have ey := nm_get fm.2.1
          have ez := nm_get fm.2.2
          subst ex ey ez
          simp only [mE] at h2
          obtain ⟨j1, j2, j3, j4⟩ := okEs _ p _ X f h2
          match vs, j4, j1, hw with
          | [v1, v2, v3], _, j1, hw => exact st_par3 f.calm hN hx hy hz hij hil hjl (names_local f hall (by simp)) (names_local f hall (by simp)) (names_local f hall (by simp)) (eorA j1 fun z => okXs _ p _ X f tk h2 z) hw
      · cases h4
    · cases h4
  · rename_i hnt
    refine st_asgT f.calm hN na he hsw ?_
    cases pe <;> first | rfl | exact absurd rfl (hnt _ _ _)
theorem Fits.tr {p : Pl} {X : Cx} (f : Fits c C Γ k p X) {pn : List (Addr × Obj)} {xe : Value → Shared → Prop} : Fits c C Γ k p (X.tr pn xe) :=
  ⟨f.N, f.sc, f.fn, f.nd, f.calm, f.gd, f.room, f.call, f.glb, f.free, f.cls, f.exm⟩
def clsV (Γ : Gam) (j : Nat) : Value := match Γ j with
  | some (a, _) => .ref a
  | none => .none
def mixL (K : Frag) (Γ : Gam) (hs : List Hd) : List (Value × Option Nat × (Addr → Value → Option Addr → TS)) := hs.map fun hd => (clsV Γ hd.cls, hd.nm, tHd K Γ hd)
theorem mix_ok {p : Pl} {X : Cx} (f : Fits c C Γ k p X) : ∀ (hs : List Hd) (phs : List ExceptHandler), mHs c p hs phs = true → MixOk X phs (mixL X.K Γ hs)
  | [], phs, h => by
    simp only [mHs] at h
    cases phs with
    | nil => exact .nil
    | cons _ _ => cases h
  | hd :: hs, phs, h => by
    simp only [mHs] at h
    cases phs with
    | nil => cases h
    | cons ph r =>
      simp only [Bool.and_eq_true] at h
      obtain ⟨h1, h2⟩ := h
      have ih := mix_ok f hs r h2
      split at h1
      · rename_i q hq
        obtain ⟨x, ps, st⟩ := q
        simp only [Bool.and_eq_true, decide_eq_true_eq] at h1
        obtain ⟨h3, h4⟩ := h1
        obtain ⟨Ca, fI, B, newId, initId, bmB, fd, cc, cda, sl, eΓ, hm, T, Dd, xf⟩ := (f.cls hd.cls x ps st hq).ex
        have hN : X.N.Nodup := by rw [f.N]; exact f.nd
        unfold mH at h4
        split at h4
        · rename_i x' np nm y yp pe ap hp
          have ex : x' = x := by simpa [hdX] using h3
          subst ex
          simp only [Bool.and_eq_true, decide_eq_true_eq] at h4
          obtain ⟨⟨⟨⟨⟨⟨⟨j1, j2⟩, j3⟩, j4⟩, j5⟩, j6⟩, j7⟩, j8⟩ := h4
          have nmx : Names X x' (clsV Γ hd.cls) := ⟨f.gl j2, (okName_d j3).1, .inl (by rw [hm]; simp only [clsV, eΓ])⟩
          have go := hd_ok (yp := yp) (ap := ap) f hq j4 j5 j7 j8
          have e0 : mixL X.K Γ (hd :: hs) = (clsV Γ hd.cls, hd.nm, tHd X.K Γ hd) :: mixL X.K Γ hs := rfl
          rw [e0]
          cases e1 : hd.nm with
          | none =>
            cases nm with
            | none => exact .plain nmx go ih
            | some _ => rw [e1] at j1; cases j1
          | some i =>
            cases nm with
            | none => rw [e1] at j1; cases j1
            | some n =>
              rw [e1] at j1
              simp only [Bool.and_eq_true, decide_eq_true_eq] at j1
              exact .named nmx hN (by rw [f.N]; exact j1.1) (by show X.env.scope.names.lookup n = _; rw [f.sc]; exact j1.2) go ih
        · cases h4
      · cases h1
theorem EnvOk.unset {K : Frag} {β : List Addr} {H : AHp} {σ : St} {ρ : Env} {i : Nat} {o : Option V} (ee : EnvOk K β H σ ρ) : EnvOk K β H (σ.set i o) (ρ.set i none) := by
  refine ⟨by simpa using ee.len, fun n d e => ?_⟩
  by_cases hn : i = n
  · subst hn
    by_cases hl : i < ρ.length
    · rw [List.getElem?_set_self hl] at e; cases e
    · rw [List.getElem?_eq_none (by simpa using hl)] at e; cases e
  · rw [List.getElem?_set_ne hn] at e ⊢
    exact ee.env n d e
theorem meet_read {p : Pl} {X : Cx} (f : Fits c C Γ k p X) {j : Nat} {ds : List D} {ρ : Env} {h : Hp} {En : Ends} {cls : Value} {d : Option Addr} {σ' : St} {β β' : List Addr} {H H' : AHp} (ok : HpOk X.K β' H' h) (ee : EnvOk X.K β' H' σ' ρ) (x' : Ext β H β' H') (er : ExcR Γ X.K β' H' j ds cls d) :
    ∀ (hs : List Hd) (phs : List ExceptHandler), mHs c p hs phs = true → PostS X.K Γ W β H (meet hs j ds ρ h) En → wMix X.N.length X.K W En (mixL X.K Γ hs) cls d σ' H'
  | [], phs, h, q => q σ' cls d H' β' ok ee x' er
  | hd :: hs, phs, h, q => by
    simp only [mHs] at h
    cases phs with
    | nil => cases h
    | cons ph r =>
      simp only [Bool.and_eq_true] at h
      obtain ⟨h1, h2⟩ := h
      split at h1
      · rename_i q0 hq
        obtain ⟨x, ps, st⟩ := q0
        simp only [Bool.and_eq_true, decide_eq_true_eq] at h1
        obtain ⟨h3, h4⟩ := h1
        obtain ⟨Ca, fI, B, newId, initId, bmB, fd, cc, cda, sl, eΓ, hm, T, Dd, xf⟩ := (f.cls hd.cls x ps st hq).ex
        obtain ⟨Cb, fs, g1, g2, g3⟩ := id er
        have em : PySem.W.exmOne X.K cls (clsV Γ hd.cls) = some (decide (hd.cls = j)) := by
          rw [g2]
          simp only [clsV, eΓ]
          exact f.exm j hd.cls Cb Ca fs _ g1 eΓ
        have e0 : mixL X.K Γ (hd :: hs) = (clsV Γ hd.cls, hd.nm, tHd X.K Γ hd) :: mixL X.K Γ hs := rfl
        rw [e0]
        simp only [meet] at q
        have no : decide (hd.cls = j) = false → wMix X.N.length X.K W En (mixL X.K Γ hs) cls d σ' H' := fun z => by
          rw [z] at q
          exact meet_read f ok ee x' er hs r h2 q
        cases e1 : hd.nm with
        | none =>
          refine ⟨_, em, fun z a na hl => ?_, no⟩
          rw [z] at q
          have ej := of_decide_eq_true z
          cases ev : hev ds hd.e with
          | none => rw [ev] at q; exact q.elim
          | some v =>
            rw [ev, e1] at q
            exact ⟨β', ρ, h, ds, v, ee, ok, by rw [ej]; exact er, ev, (fun i z => by rw [e1] at z; cases z), fun σ2 H2 β2 ok2 ee2 x2 => q σ2 H2 β2 ok2 ee2 (x'.trans x2)⟩
        | some i =>
          refine ⟨_, em, fun z a na hl => ?_, no⟩
          rw [z] at q
          have ej := of_decide_eq_true z
          cases ev : hev ds hd.e with
          | none => rw [ev] at q; exact q.elim
          | some v =>
            rw [ev, e1] at q
            have hi : i < σ'.length := by
              unfold mH at h4
              split at h4
              · rename_i x' np nm y yp pe ap hp
                simp only [Bool.and_eq_true, decide_eq_true_eq] at h4
                obtain ⟨⟨⟨⟨⟨⟨⟨j1, j2⟩, j3⟩, j4⟩, j5⟩, j6⟩, j7⟩, j8⟩ := h4
                rw [e1] at j1
                cases nm with
                | none => cases j1
                | some n =>
                  simp only [Bool.and_eq_true, decide_eq_true_eq] at j1
                  rw [hl, f.N]
                  exact (List.getElem?_eq_some_iff.mp j1.1).1
              · cases h4
            exact ⟨β', ρ.set i none, h, ds, v, ee.unset, ok, by rw [ej]; exact er, ev, (fun i' z => by rw [e1] at z; cases z; exact List.getElem?_set_self hi), fun σ2 H2 β2 ok2 ee2 x2 => q _ H2 β2 ok2 ee2.unset (x'.trans x2)⟩
      · cases h1
theorem try_read {p : Pl} {X : Cx} (f : Fits c C Γ k p X) {b : Ss} (hs : List Hd) (phs : List ExceptHandler) (hm : mHs c p hs phs = true) {En : Ends} {σ : St} {H : AHp} (q : tS C X.K Γ W (.try_ b hs) En σ H) : tSs C X.K Γ (wMix X.N.length X.K W En (mixL X.K Γ hs)) b En σ H := by
  obtain ⟨β, ρ, h, ee, ok, p0⟩ := q
  simp only [ex] at p0
  refine ⟨β, ρ, h, ee, ok, ?_⟩
  cases e : exs C b ρ h with
  | exc j ds ρ1 h1 =>
    rw [e] at p0
    exact fun σ' cls d H' β' ok' ee' x' er => meet_read f ok' ee' x' er hs phs hm p0
  | nx _ _ => rw [e] at p0; exact p0
  | bk _ _ => rw [e] at p0; exact p0
  | ct _ _ => rw [e] at p0; exact p0
  | rt _ _ => rw [e] at p0; exact p0
  | bad => rw [e] at p0; exact p0
mutual
theorem okS : ∀ (s : S) (W : WX) (p : Pl) (st : Stmt) (X : Cx), Fits c C Γ k p X → PassesOwn (model X.prog X.w) X.A X.env X.xe → Takes X W → X.stack = X.env :: X.outer → X.env.frame = some X.env.locals → mS c s p st = true → PS X st (tS C X.K Γ W s)
  | .asg i e, W, p, st, X, f, hp, tk, s1, s2, h => by
    simp only [mS] at h
    split at h
    · rename_i x py pe pos
      simp only [Bool.and_eq_true, decide_eq_true_eq] at h
      obtain ⟨⟨⟨⟨h1, h2⟩, h3⟩, h4⟩, h5⟩ := h
      have hN : X.N.Nodup := by rw [f.N]; exact f.nd
      split at h5
      · rename_i hw
        exact st_asg hN (by rw [f.N]; exact h1) (f.loc h2) (eorE ((okE e false p _ X f h4).1 rfl) fun z => (okX e false p _ X f tk h4 z).1 rfl) (sw_no (swC_no hw)) (f.sto h3)
      · cases h5
      · rename_i hw
        cases e with
        | lc own tg it cs elt => exact st_asgLc f h1 h4 hw
        | _ => cases h5
    · cases h
  | .asgT is e, W, p, st, X, f, hp, tk, s1, s2, h => by
    simp only [mS] at h
    split at h
    · simp only [Bool.and_eq_true] at h
      exact st_tup f tk h.1.1.1 h.1.1.2 h.1.2 h.2
    · cases h
  | .set o i e, W, p, st, X, f, hp, tk, s1, s2, h => by
    simp only [mS] at h
    split at h
    · simp only [Bool.and_eq_true] at h
      obtain ⟨⟨⟨h1, h2⟩, h3⟩, h4⟩ := h
      exact st_set f.u1 ((okE o false p _ X f h1).1 rfl) ((okE i false p _ X f h2).1 rfl) ((okE e false p _ X f h4).1 rfl) sw_sub (asg_sub h3)
    · cases h
  | .aug i o e, W, p, st, X, f, hp, tk, s1, s2, h => by
    simp only [mS] at h
    split at h
    · simp only [Bool.and_eq_true, decide_eq_true_eq] at h
      obtain ⟨⟨⟨⟨h1, h2⟩, h3⟩, h4⟩, h5⟩ := h
      have hN : X.N.Nodup := by rw [f.N]; exact f.nd
      obtain ⟨t, B⟩ := aug_of (X := X) h4
      exact st_aug B hN (by rw [f.N]; exact h1) (f.loc h2) ((okE e false p _ X f h5).1 rfl) (f.sto h3)
    · cases h
  | .ex e, W, p, st, X, f, hp, tk, s1, s2, h => by
    simp only [mS] at h
    split at h
    · simp only [Bool.and_eq_true] at h
      exact st_ex (eorE ((okE e false p _ X f h.1).1 rfl) fun z => (okX e false p _ X f tk h.1 z).1 rfl) (sw_no h.2)
    · cases h
  | .ife t a b, W, p, st, X, f, hp, tk, s1, s2, h => by
    simp only [mS] at h
    split at h
    · simp only [Bool.and_eq_true] at h
      exact st_if (eorT ((okE t true p _ X f h.1.1).2.1 rfl) fun z => (okX t true p _ X f tk h.1.1 z).2 rfl) (okSs a W p _ X f hp tk s1 s2 h.1.2) (okSs b W p _ X f hp tk s1 s2 h.2)
    · cases h
  | .for_ tg it b, W, p, st, X, f, hp, tk, s1, s2, h => by
    simp only [mS] at h
    split at h
    · simp only [Bool.and_eq_true] at h
      obtain ⟨⟨⟨⟨h1, h2⟩, h8⟩, h3⟩, h4⟩ := h
      exact st_for hp f.calm (okI it p _ X f h2 _ h8) (tg_of f h1) (okSs b W p _ X f hp tk s1 s2 h4) (set_of h3)
    · cases h
  | .whl t b, W, p, st, X, f, hp, tk, s1, s2, h => by
    simp only [mS] at h
    split at h
    · simp only [Bool.and_eq_true] at h
      exact st_whl hp ((okE t true p _ X f h.1).2.1 rfl) (okSs b W p _ X f hp tk s1 s2 h.2)
    · cases h
  | .ret e, W, p, st, X, f, hp, tk, s1, s2, h => by
    simp only [mS] at h
    split at h
    · exact st_ret (eorE ((okE e false p _ X f h).1 rfl) fun z => (okX e false p _ X f tk h z).1 rfl)
    · cases h
  | .retN, W, p, st, X, f, hp, tk, s1, s2, h => by
    simp only [mS] at h
    split at h
    · exact st_retN
    · cases h
  | .brk, W, p, st, X, f, hp, tk, s1, s2, h => by
    simp only [mS] at h
    split at h
    · exact st_brk
    · cases h
  | .cnt, W, p, st, X, f, hp, tk, s1, s2, h => by
    simp only [mS] at h
    split at h
    · exact st_cnt
    · cases h
  | .pass, W, p, st, X, f, hp, tk, s1, s2, h => by
    simp only [mS] at h
    split at h
    · exact st_pass
    · cases h
  | .rse j es, W, p, st, X, f, hp, tk, s1, s2, h => by
    simp only [mS] at h
    split at h
    · rename_i x pp pes cpos rpos
      simp only [Bool.and_eq_true, Bool.not_eq_true'] at h
      obtain ⟨⟨⟨⟨h1, h2⟩, h3⟩, h4⟩, h5⟩ := h
      split at h5
      · rename_i q hq
        simp only [Bool.and_eq_true, decide_eq_true_eq] at h5
        obtain ⟨x', ps, sto⟩ := q
        obtain ⟨e1, e2⟩ := h5
        have e1' : x' = x := e1
        subst e1'
        obtain ⟨j1, j2, j3, j4⟩ := okEs es p _ X f h3
        cases pes with
        | nil => cases h4
        | cons pe pes => exact st_rse f tk (f.gl h1) h2 hq e2 j1 j3 j4
      · cases h5
    · cases h
  | .try_ b hs, W, p, st, X, f, hp, tk, s1, s2, h => by
    simp only [mS] at h
    split at h
    · rename_i pb ph tpos
      simp only [Bool.and_eq_true, Bool.not_eq_true'] at h
      obtain ⟨⟨h1, h2⟩, h3⟩ := h
      cases ph with
      | nil =>
        cases hs with
        | nil => cases h1
        | cons _ _ => simp [mHs] at h3
      | cons ph phs =>
        exact imS (ps_try_mix (tb := fun W' => tSs C X.K Γ W' b) s1 s2 tk (fun W' pn xe tk' hp' => okSs b W' p pb (X.tr pn xe) f.tr hp' tk' s1 s2 h2) (mix_ok f hs _ h3)) fun En σ H q => try_read f hs _ h3 q
    · cases h
  | .opq, W, p, st, X, f, hp, tk, s1, s2, h => ⟨fun pins s σ H D I q => by
    obtain ⟨β, ρ, h, _, _, p⟩ := q
    simp only [ex] at p
    exact p.elim⟩
theorem okSs : ∀ (ss : Ss) (W : WX) (p : Pl) (sts : List Stmt) (X : Cx), Fits c C Γ k p X → PassesOwn (model X.prog X.w) X.A X.env X.xe → Takes X W → X.stack = X.env :: X.outer → X.env.frame = some X.env.locals → mSs c ss p sts = true → PSs X sts (tSs C X.K Γ W ss)
  | .nil, W, p, sts, X, f, hp, tk, s1, s2, h => by
    simp only [mSs] at h
    cases sts with
    | nil => exact ss_nil
    | cons _ _ => cases h
  | .cons s ss, W, p, sts, X, f, hp, tk, s1, s2, h => by
    simp only [mSs] at h
    cases sts with
    | nil => cases h
    | cons st r =>
      simp only [Bool.and_eq_true] at h
      exact ss_cons (okS s W p st X f hp tk s1 s2 h.1) (okSs ss W p r X f hp tk s1 s2 h.2)
end
end
end G

/-! G22: defs, the law. -/
namespace G
open PySem PySem.Spec L2
open PyProof.Rows hiding St
/-- a def: its name, the slots' names, the parameters, its text -/
structure Df where
  id : Nat
  x : Str
  N : List Str
  ps : List Str
  fn : Fn
def dfOf : List Df → Nat → Option Df
  | [], _ => none
  | d :: l, f => if d.id = f then some d else dfOf l f
def fnOf (l : List Df) (f : Nat) : Option Fn := (dfOf l f).map (·.fn)
def semOf (l : List Df) : Nat → Nat → List D → Hp → R Rv := sem (fnOf l)
theorem dfOf_id : ∀ {l : List Df} {j : Nat} {d : Df}, (l.map (·.id)).Nodup → l[j]? = some d → dfOf l d.id = some d
  | [], j, d, _, e => by simp at e
  | x :: l, 0, d, _, e => by simp at e; subst e; simp [dfOf]
  | x :: l, j + 1, d, nd, e => by
    rw [List.map_cons, List.nodup_cons] at nd
    have e' : l[j]? = some d := by simpa using e
    have : ¬ x.id = d.id := fun z => nd.1 (by rw [z]; exact List.mem_map_of_mem (List.mem_of_getElem? e'))
    simp only [dfOf, if_neg this]
    exact dfOf_id nd.2 e'
theorem look_mem : ∀ {l : List Df} {f : Nat} {q : Str × Nat}, (l.map fun d => (d.id, d.x, d.fn.np)).lookup f = some q → ∃ (j : Nat) (d : Df), l[j]? = some d ∧ d.id = f ∧ q = (d.x, d.fn.np)
  | [], f, q, e => by simp at e
  | x :: l, f, q, e => by
    simp only [List.map_cons, List.lookup_cons] at e
    split at e
    · rename_i h
      cases e
      exact ⟨0, x, rfl, (eq_of_beq h).symm, rfl⟩
    · obtain ⟨j, d, a, b, c⟩ := look_mem e
      exact ⟨j + 1, d, by simpa using a, b, c⟩
section
variable {Pg : Program} {w : World} {K : Frag} {mg : Str → Option Value} {bs : Heap} {c : Cfg} {l : List Df} {sts : List Stmt}
/-- a def as the head tells it -/
structure Told (K : Frag) (mg : Str → Option Value) (d : Df) (st : Stmt) (fa : Addr) (fd : FuncData) : Prop where
  fun_ : FunD K d.x d.x (defArgs st) (defBody st) (defScope st) [] [] fa fd
  mg : mg d.x = some (.ref fa)
  bind : Binds K fd d.ps []
/-- a def's text fits -/
structure FitD (c : Cfg) (d : Df) (st : Stmt) : Prop where
  sc : FnScope d.N d.ps (defScope st)
  np : d.fn.np = d.ps.length
  ns : d.fn.ns = d.N.length
  body : mSs c d.fn.body ⟨d.N, defScope st, fun _ => true⟩ (defBody st) = true
theorem lookup_at {α : Type} : ∀ {l : List (Nat × α)} {i : Nat} {a : α}, l.lookup i = some a → ∃ j : Nat, l[j]? = some (i, a)
  | [], i, a, e => by simp at e
  | (k, b) :: l, i, a, e => by
    rw [List.lookup_cons] at e
    split at e
    · rename_i hk
      cases e
      exact ⟨0, by rw [eq_of_beq hk]; rfl⟩
    · obtain ⟨j, ej⟩ := lookup_at e
      exact ⟨j + 1, by simpa using ej⟩
theorem env_start {β : List Addr} {H : AHp} {N : List Str} {ds : List D} {vs : List V} {n : Nat} (q : Rels K β H ds vs) (hn : n = N.length - vs.length) : EnvOk K β H (start N vs) (ds.map some ++ List.replicate n none) := by
  subst hn
  have hl := q.length
  refine ⟨by simp [L2.start, hl], fun i d e => ?_⟩
  by_cases hi : i < ds.length
  · rw [List.getElem?_append_left (by simpa using hi)] at e
    rw [List.getElem?_map] at e
    cases ed : ds[i]? with
    | none => rw [ed] at e; cases e
    | some d' =>
      rw [ed] at e
      cases e
      obtain ⟨v, ev, rv⟩ := q.get ed
      refine ⟨v, ?_, rv⟩
      unfold L2.start
      rw [List.getElem?_append_left (by simpa [← hl] using hi), List.getElem?_map, ev]
      rfl
  · rw [List.getElem?_append_right (by simpa using hi), List.getElem?_replicate] at e
    split at e <;> cases e
theorem Around_guards {A : Around} {env : PySem.Env} (h : A.guards = some []) : (A.deeper env).guards = some [] := h
theorem prog_ok {Γ : Gam} (hl : sts.length = l.length) (hnd : (l.map (·.id)).Nodup) (hfns : c.fns = l.map fun d => (d.id, d.x, d.fn.np)) (told : ∀ (f : Nat) (d : Df) (st : Stmt), l[f]? = some d → sts[f]? = some st → FitD c d st ∧ ∃ fa fd, Told K mg d st fa fd)
    (hglb : ∀ (i : Nat) (x : Str) (d : D), c.glbs.lookup i = some (x, d) → GlbOk K mg x d) (hfree : ∀ x, x ∈ c.fr → mg x = none) (hcls : ∀ (i : Nat) (x : Str) (ps : List Str) (st : Bool), c.cls.lookup i = some (x, ps, st) → ClsOk Pg K mg Γ i x ps st)
    (hexm : ∀ (i j : Nat) (Ci Cj : Addr) (fi fj : List Str), Γ i = some (Ci, fi) → Γ j = some (Cj, fj) → PySem.W.exmOne K (.ref Ci) (.ref Cj) = some (decide (j = i))) :
    ∀ (k f : Nat) (d : Df) (st : Stmt), l[f]? = some d → sts[f]? = some st → ∀ fa fd, Told K mg d st fa fd → FnG Pg w K mg bs (CX Pg w) k fa fd d.ps (spC (semOf l k) Γ K d.id d.fn.np)
  | 0, f, d, st, hd, hs, fa, fd, T => by
    have no : ∀ vs H Q E, ¬ spC (semOf l 0) Γ K d.id d.fn.np vs H Q E := fun vs H Q E q => by
      obtain ⟨_, β, h, ds, _, _, ⟨r, h', e, _⟩ | ⟨c, es, h', e, _⟩⟩ := q <;> cases e
    exact ⟨fun vs H Q E q => (no vs H Q E q).elim, fun A out s H ar us vs Q E _ _ _ _ _ q => (no vs H Q E q).elim⟩
  | k + 1, f, d, st, hd, hs, fa, fd, T => by
    obtain ⟨F, _⟩ := told f d st hd hs
    refine fnG_of T.fun_ F.sc (fun vs H Q E q => by rw [q.1, F.np]) fun cv A out s H vs Q E hg hr q => ⟨tSs (semOf l k) K Γ (fun cls d _ H => E cls d H) d.fn.body, okSs (c := c) (k := k) d.fn.body _ ⟨d.N, defScope st, fun _ => true⟩ _ _ ⟨rfl, rfl, rfl, F.sc.nd, rfl, hg, hr, fun g x np hx => ?_, hglb, hfree, hcls, hexm⟩ (passes_of rfl) (takes_of rfl rfl rfl rfl) rfl rfl F.body, ?_⟩
    · rw [hfns] at hx
      obtain ⟨j, d2, eg, rfl, eq⟩ := look_mem hx
      cases eq
      obtain ⟨st2, es2⟩ : ∃ st2, sts[j]? = some st2 := ⟨_, List.getElem?_eq_getElem (by rw [hl]; exact (List.getElem?_eq_some_iff.mp eg).1)⟩
      obtain ⟨_, fa2, fd2, T2⟩ := told j d2 st2 eg es2
      exact ⟨fa2, fd2, d2.ps, prog_ok hl hnd hfns told hglb hfree hcls hexm k j d2 st2 eg es2 fa2 fd2 T2, T2.mg, T2.fun_.kp, T2.bind⟩
    · obtain ⟨q1, β, h, ds, ok, rv, q⟩ := q
      refine ⟨β, _, h, env_start rv (n := d.fn.ns - d.fn.np) (by rw [F.ns, q1]), ok, ?_⟩
      have unf : ∀ {x : R Rv}, semOf l (k + 1) d.id ds h = x → runFn (semOf l k) d.fn ds h = x := fun {x} e => by
        have e' : (match fnOf l d.id with | some fn => runFn (semOf l k) fn ds h | none => .bad) = x := e
        rw [fnOf, dfOf_id hnd hd] at e'
        exact e'
      rcases q with ⟨r, h', e, p⟩ | ⟨j, es, h', e, p⟩
      · have e := unf e
        unfold runFn at e
        split at e
        · cases er : exs (semOf l k) d.fn.body (ds.map some ++ List.replicate (d.fn.ns - d.fn.np) none) h with
          | nx ρ1 h1 =>
            rw [er] at e
            cases e
            exact fun σ' H' β' ok' _ x' => p.val ok' x' mkNon
          | rt r1 h1 =>
            rw [er] at e
            cases e
            exact p
          | bk _ _ => rw [er] at e; cases e
          | ct _ _ => rw [er] at e; cases e
          | exc _ _ _ _ => rw [er] at e; cases e
          | bad => rw [er] at e; cases e
        · cases e
      · have e := unf e
        unfold runFn at e
        split at e
        · cases er : exs (semOf l k) d.fn.body (ds.map some ++ List.replicate (d.fn.ns - d.fn.np) none) h with
          | exc j2 es2 ρ1 h1 =>
            rw [er] at e
            cases e
            exact fun σ' cls dd H' β' ok' _ x' x => p cls dd H' β' ok' x' x
          | nx _ _ => rw [er] at e; cases e
          | rt _ _ => rw [er] at e; cases e
          | bk _ _ => rw [er] at e; cases e
          | ct _ _ => rw [er] at e; cases e
          | bad => rw [er] at e; cases e
        · cases e
end
/-- the law's own call, where no repr is under way -/
theorem lawG {Pg : Program} {w : World} {K : Frag} {mg mb : Str → Option Value} {n : Nat} {fa a : Addr} {fd : FuncData} {x : Str} {sp : Sp} {sh : Shared} {us : List Value} {ns : List Int}
    (inK : K.In sh.heap) (nsM : sh.heap.Ns mainGlobals mg) (nsB : sh.heap.Ns builtinsNs mb) (boot : ∀ y : Str, y ≠ "__name__" → mb y = bootBuiltins y) (nl : sh.heap.NoLimit) (noGen : sh.gens = #[])
    (obj : sh.heap.get? a = some { cls := .type "list", data := .seq us.toArray }) (isI : IntsAre us ns) (short : ns.length ≤ sizeLine) (room : Room n callerA)
    (F : ∀ bs : Heap, K.In bs → bs.Ns mainGlobals mg → FnG Pg w K mg bs (CX Pg w) n fa fd [x] sp) (bind : ∀ (s : Shared) (u : Value), BindsTo s fd ⟨[u], []⟩ [(x, u)])
    (hsp : ∀ H : AHp, Only H → SqL K H a (ns.map V.int) → sp [.ref a] H (fun v _ => v = .bl true) fun _ _ _ => False) :
    codeAny (model Pg w) callerA (.call (.ref fa) ⟨[.ref a], []⟩) (fun res t => res = .ok (.ret (.bool true)) ∧ OldK sh.heap t.heap ∧ t.os = sh.os ∧ AllBare t.gens) sh := by
  have vals := vals_ints isI
  have same := isI.length
  have main : ∀ H : AHp, Only H → SqL K H a (ns.map V.int) → HOk Pg w H sh.heap → (∀ b, H b ≠ none → b = a) → (H a ≠ none → K.lookup a = none) →
      codeAny (model Pg w) callerA (.call (.ref fa) ⟨[.ref a], []⟩) (fun res t => res = .ok (.ret (.bool true)) ∧ OldK sh.heap t.heap ∧ t.os = sh.os ∧ AllBare t.gens) sh := by
    intro H only sq hok own kno
    have noDict : ∀ {b : Addr} {o : Obj} {es : Array DictEntry} {ep : Nat}, sh.heap.get? b = some o → o.data = .dict es ep → H b = none := by
      intro b o es ep e dd
      cases q : H b with
      | none => rfl
      | some y =>
        have eb : b = a := own b (by rw [q]; simp)
        subst eb
        rw [obj] at e
        cases e
        exact absurd dd (fun z => nomatch z)
    have keepNs : ∀ {b : Addr} {m : Str → Option Value}, sh.heap.Ns b m → (hidT sh.heap H).Ns b m := by
      rintro b m ⟨o, es, ep, e, dd, rest⟩
      exact ⟨o, es, ep, hidT_get e (noDict e dd), dd, rest⟩
    have inB : K.In (hidT sh.heap H) := by
      intro b o e
      refine hidT_get (inK b o e) ?_
      cases q : H b with
      | none => rfl
      | some y =>
        have eb : b = a := own b (by rw [q]; simp)
        subst eb
        rw [kno (by rw [q]; simp)] at e
        cases e
    have md : Mod K mg (hidT sh.heap H) := by
      obtain ⟨mc, c1, c2⟩ := nl
      exact ⟨inB, keepNs nsM, ⟨mb, keepNs nsB, boot⟩, ⟨mc, keepNs c1, c2⟩⟩
    have env : Env0 Pg w K mg (hidT sh.heap H) callerA [] sh H := ⟨rfl, md, fun b o e => of_hidT e, Nat.le_of_eq (hidT_size _ _), trivial, (fun b hb => by cases hb), hok, .of_eq noGen⟩
    refine codeAny_mono ((F _ inB (keepNs nsM)).run callerA [] sh H ⟨[.ref a], []⟩ [.ref a] [.ref a] _ _ rfl room env (bind sh (.ref a)) (.cons rfl .nil) (hsp H only sq)) fun res t ht => ?_
    match res, ht with
    | .error e, ht =>
      obtain ⟨_, _, _, _, _, _, _, _, _, _, _, _, z⟩ := ht
      exact z.elim
    | .ok (.ret u), ht =>
      obtain ⟨v, H2, os, bare, un, hok2, rv, q⟩ := ht
      have q : v = .bl true := q
      subst q
      have eu : u = Value.bool true := rv
      subst eu
      refine ⟨rfl, OldK.of_keep fun b o e => ?_, os, bare⟩
      cases q : H b with
      | none => exact un.keep b o e q (fun z => by cases z) (by simp)
      | some y =>
        rcases only b with z | ⟨ob, xs, z⟩
        · rw [q] at z; cases z
        · have z2 := un.frzs b ob _ z
          obtain ⟨k1, _⟩ := hok b _ z
          obtain ⟨k2, _⟩ := hok2 b _ z2
          rw [e] at k1
          cases k1
          exact k2
  cases hk : K.lookup a with
  | some o =>
    have e := inK a o hk
    rw [obj] at e
    cases e
    exact main (fun _ => none) (fun _ => .inl rfl) (.inr ⟨_, us.toArray, _, hk, rfl, rfl, rfl, by rw [List.size_toArray, same]; exact short, by simpa using vals⟩) (fun b y z => nomatch z) (fun b z => absurd rfl z) (fun z => absurd rfl z)
  | none =>
    refine main (fun b => if b = a then some (.frz { cls := .type "list", data := .seq us.toArray } (.lst (ns.map V.int))) else none) ?_ (.inl (.inr ⟨_, if_pos rfl⟩)) ?_ ?_ (fun _ => hk)
    · intro b
      by_cases eb : b = a
      · exact .inr ⟨_, _, if_pos eb⟩
      · exact .inl (if_neg eb)
    · intro b y z
      by_cases eb : b = a
      · subst eb
        have z3 := (if_pos (rfl : b = b)).symm.trans z
        cases z3
        exact ⟨obj, by rw [List.length_map]; exact short, us, _, vals, obj⟩
      · have z3 := (if_neg eb).symm.trans z
        cases z3
    · intro b z
      by_cases eb : b = a
      · exact eb
      · exact absurd (if_neg eb) z
/-- a law from its promise -/
theorem walkG {lw : PySem.W.OpenLaw} {m n : Nat} {q : Program} {loose : List Str} {XP : (Str → Option Value) → Heap → Prop} {YP : World → Heap → Prop} {d : DefRec} {x : Str} (hm : lw.most = some m) (hm2 : m ≤ sizeLine) (hdf : d.params.defaults = []) (room : Room n callerA)
    (F : ∀ (w : World) (mg : Str → Option Value) (fa : Addr) (h : Heap), YP w h → h.Ns mainGlobals mg → mg d.name = some (.ref fa) →
      ∃ (K : Frag) (fd : FuncData) (sp : Sp), K.In h ∧ (∀ (s : Shared) (u : Value), BindsTo s fd ⟨[u], []⟩ [(x, u)]) ∧
        (∀ (H : AHp) (a : Addr) (ns : List Int), ns.length ≤ m → Only H → SqL K H a (ns.map V.int) → sp [.ref a] H (fun v _ => v = .bl true) fun _ _ _ => False) ∧
        ∀ bs : Heap, K.In bs → bs.Ns mainGlobals mg → FnG lw.prog w K mg bs (CX lw.prog w) n fa fd [x] sp) :
    PySem.W.WalkO q loose XP YP lw.row.toRowW d [] (fun f vs => PySem.call f vs) :=
  Att.attach_call hm hdf fun w s0 sh mg mb fa o pm cd doc a us ns G Y ho hd hcd hmg hobj hints hlen hg => by
    obtain ⟨K, fd, sp, inK, hb, hsp, hF⟩ := F w mg fa _ Y G.T.g hmg
    exact lawG inK G.T.g G.T.b G.T.builtins G.T.nolimit hg hobj hints (Nat.le_trans hlen hm2) room hF hb fun H hO hS => hsp H a ns hlen hO hS
/-- the script as a value -/
theorem script_rel {K : Frag} {H : AHp} {a : Addr} {ns : List Int} (hO : Only H) (hS : SqL K H a (ns.map V.int)) : Rels K [] H [.rol (ns.map .int)] [.ref a] := by
  refine Rels.cons ?_ Rels.nil
  have isI : ∀ ms : List Int, Rels K [] H (ms.map .int) (ms.map V.int) := fun ms => by
    induction ms with
    | nil => exact Rels.nil
    | cons i r ih => exact Rels.cons (mkInt i) ih
  simp only [Rel]
  refine ⟨a, ns.map V.int, rfl, ?_, isI ns⟩
  rcases hS with (z | ⟨o, z⟩) | z
  · rcases hO a with y | ⟨o, xs, y⟩ <;> rw [z] at y <;> cases y
  · exact .inl ⟨o, z⟩
  · exact .inr z
theorem law_sp {Γ : Gam} {K : Frag} {C : Nat → List D → Hp → R Rv} {f : Nat} {H : AHp} {a : Addr} {ns : List Int} {E : XK} {h' : Hp} (hO : Only H) (hS : SqL K H a (ns.map V.int)) (e : C f [.rol (ns.map .int)] [] = .ok (.val (.bl true)) h') : spC C Γ K f 1 [.ref a] H (fun v _ => v = .bl true) E :=
  ⟨rfl, [], [], _, HpOk.nil, script_rel hO hS, .inl ⟨_, h', e, fun v H' β' F ok x rr _ => Rel.bl rr⟩⟩
end G

/-! X6: what the head tells of own classes of errors. -/
namespace G
open PySem PySem.W PySem.Calls PyProof.Rows
/-- a built-in class above own errors -/
structure BF where
  B : String
  newId : String
  initId : String
  bm : List Value
structure BFok (b : BF) : Prop where
  eb : ExcBaseFacts b.B b.newId b.initId b.bm
  ks : KxsFacts b.B b.initId
  sf : StoreFacts b.B b.bm "object.__setattr__" "object"
def bfV : BF := ⟨"ValueError", "ValueError.__new__", "ValueError.__init__", [.type "ValueError", .type "Exception", .type "BaseException", .type "object"]⟩
def bfO : BF := ⟨"OverflowError", "OverflowError.__new__", "OverflowError.__init__", [.type "OverflowError", .type "ArithmeticError", .type "Exception", .type "BaseException", .type "object"]⟩
def bfL : BF := ⟨"LookupError", "LookupError.__new__", "LookupError.__init__", [.type "LookupError", .type "Exception", .type "BaseException", .type "object"]⟩
theorem bfV_ok : BFok bfV := ⟨F.excBase_ValueError, kxs_ValueError, F.store_ValueError⟩
theorem bfO_ok : BFok bfO := ⟨F.excBase_OverflowError, kxs_OverflowError, F.store_OverflowError⟩
theorem bfL_ok : BFok bfL := ⟨F.excBase_LookupError, kxs_LookupError, F.store_LookupError⟩
/-- an own class of errors as it is written -/
structure EC where
  id : Nat
  x : Str
  ps : List Str
  st : Bool
  b : BF
  prm : Arguments
def asgB (sl : Str) : List Str → List Stmt → Bool
  | [], l => l.isEmpty
  | f :: fs, l => match l with
    | .Assign [.Attribute (.Name s _) g _] (.Name h _) _ :: r => decide (s = sl) && decide (g = f) && decide (h = f) && asgB sl fs r
    | _ => false
theorem asgB_ok {sl : Str} : ∀ {fs : List Str} {l : List Stmt}, asgB sl fs l = true → AsgsOk sl fs l
  | [], l, h => by
    simp only [asgB] at h
    exact List.isEmpty_iff.mp h
  | f :: fs, l, h => by
    simp only [asgB] at h
    split at h
    · simp only [Bool.and_eq_true, decide_eq_true_eq] at h
      obtain ⟨⟨⟨h1, h2⟩, h3⟩, h4⟩ := h
      subst h1 h2 h3
      exact ⟨_, _, _, _, _, rfl, asgB_ok h4⟩
    · cases h
def bodyB (e : EC) : FuncBody → Bool
  | .stmts (.Expr (.Call (.Attribute (.Call (.Name su _) [] [] _) ini p2) [ex] [] p3) _ :: r) => decide (su = "super") && (decide (ini = "__init__") && ((p2.endLine == p3.line) && (asgB "self" (if e.st then e.ps else []) r && (match ex with
    | .Constant (.str _) _ _ => true
    | .Name y _ => decide (y ∈ e.ps)
    | _ => false))))
  | _ => false
def fdB (K : Frag) (f : Str) (C : Addr) (e : EC) (fd : FuncData) : Bool :=
  (match fd.closure with
    | [(n, cc)] => decide (n = "__class__") && (match K.lookup cc with
      | some ⟨_, _, .cell (some (.ref C')), _⟩ => decide (C' = C)
      | _ => false)
    | _ => false) &&
  ((match fd.code with
    | .ref cda => (match K.lookup cda with
      | some ⟨_, _, .fields vs, _⟩ => (match (vs[2]? : Option Value) with
        | some (.str file _) => f == file
        | _ => false)
      | _ => false)
    | _ => false) &&
  (codeIn K fd.code fd.qualname && (decide (fd.globals = mainGlobals) && (decide (fd.builtins = builtinsNs) && (decide (fd.scope.kind = .function) && (decide (fd.scope.isCoroutine = false) && (decide (fd.scope.isGenerator = false) &&
  (fd.scope.names.all (fun y => decide (y.2 ≠ .cell)) && (decide (fd.scope.names.lookup ("super" : Str) = some .globalImplicit) && (decide (fd.scope.names.lookup ("__class__" : Str) = some .free) &&
  (bodyB e fd.body && (((("self" : Str) :: e.ps).all fun y => decide (fd.scope.names.lookup y = some .local) && !(y == ("__debug__" : Str))) &&
  (match (fd.params.posonlyargs ++ fd.params.args).head? with
    | some ar => decide (ar.arg = "self")
    | none => false)))))))))))))
def errB (K : Frag) (f : Str) (e : EC) : Bool :=
  He.eqO (nsIn K mainGlobals e.x) (some (some (.ref (He.ga K e.x)))) && (excInitIn K (He.ga K e.x) e.b.bm e.b.newId && (excOver K (He.ga K e.x) e.b.bm && (hasDictIn K (He.ga K e.x) &&
  (He.eqO (findIn K (.ref (He.ga K e.x)) "__setattr__") (some (some (.builtin "object.__setattr__"))) && (He.eqO (findIn K (.ref (He.ga K e.x)) "__init__") (some (some (.ref (He.ma K (He.ga K e.x) "__init__")))) &&
  (decide (typeIn K (.ref (He.ma K (He.ga K e.x) "__init__")) = some (.type "function")) && (decide (subIn K (.ref (He.ga K e.x)) (.type "BaseException") = some true) && (decide (subIn K (.ref (He.ga K e.x)) (.type e.b.B) = some true) &&
  (decide (typeIn K (.ref (He.ga K e.x)) = some (.type "type")) && (keepIn K (.ref (He.ga K e.x)) && (He.eqO (nsIn K mainGlobals "super") (some none) && (He.eqO (nsIn K cStatics "thirdparty.any") (some none) &&
  (He.eqO (ks_superIn K (He.ga K e.x) (He.ga K e.x) "__init__") (some (some (.builtin e.b.initId))) && (L2.xfB K (He.ga K e.x) && ((!e.st || e.ps.all fun y => He.eqO (findIn K (.ref (He.ga K e.x)) y) (some none)) &&
  (match K.lookup (He.ma K (He.ga K e.x) "__init__") with
    | some ⟨_, _, .func fd, _⟩ => fdB K f (He.ga K e.x) e fd
    | _ => false))))))))))))))))
def prmX (K : Frag) (e : EC) : Option (Arguments × Value) := match K.lookup (He.ma K (He.ga K e.x) "__init__") with
  | some ⟨_, _, .func fd, _⟩ => some (fd.params, fd.defaults)
  | _ => none
/-- what is told of a class by its text alone -/
structure EcOk (e : EC) : Prop where
  bf : BFok e.b
  nd : (("self" : Str) :: e.ps).Nodup
  len : e.ps.length ≤ 100
  bind : ∀ fd : FuncData, fd.params = e.prm → fd.defaults = .none → ∀ us : List Value, us.length = e.ps.length + 1 → bindArgs fd ⟨us, []⟩ = pure ((("self" : Str) :: e.ps).zip us)
def initOf : Stmt → Stmt
  | .ClassDef _ _ _ (st :: _) _ _ _ _ _ _ _ => st
  | st => st
def gamOf (K : Frag) (ecs : List EC) : Gam := fun i => (ecs.find? fun e => decide (e.id = i)).map fun e => (He.ga K e.x, if e.st then e.ps else [])
section
variable {K : Frag} {h : Heap} {mg : Str → Option Value} {prog : Program} {ecs : List EC}
theorem cls_of {e : EC} (X : K.In h) (G : h.Ns mainGlobals mg) (he : EcOk e) (htop : (prog.main.scope.names.lookup ("super" : Str)).isSome = false) (c : errB K (prog.main.file : Str) e = true) (c2 : prmX K e = some (e.prm, .none)) (hΓ : gamOf K ecs e.id = some (He.ga K e.x, if e.st then e.ps else [])) :
    ClsOk prog K mg (gamOf K ecs) e.id e.x e.ps e.st := by
  obtain ⟨a1, c⟩ := He.ba c
  obtain ⟨a2, c⟩ := He.ba c
  obtain ⟨a3, c⟩ := He.ba c
  obtain ⟨a4, c⟩ := He.ba c
  obtain ⟨a5, c⟩ := He.ba c
  obtain ⟨a6, c⟩ := He.ba c
  obtain ⟨a7, c⟩ := He.ba c
  obtain ⟨a8, c⟩ := He.ba c
  obtain ⟨a9, c⟩ := He.ba c
  obtain ⟨a10, c⟩ := He.ba c
  obtain ⟨a11, c⟩ := He.ba c
  obtain ⟨a12, c⟩ := He.ba c
  obtain ⟨a13, c⟩ := He.ba c
  obtain ⟨a14, c⟩ := He.ba c
  obtain ⟨a15, c⟩ := He.ba c
  obtain ⟨a16, c⟩ := He.ba c
  unfold prmX at c2
  split at c
  · rename_i oc od fd osl hf
    rw [hf] at c2
    have p1 : fd.params = e.prm := by injection c2 with z; injection z
    have p2 : fd.defaults = .none := by injection c2 with z; injection z
    obtain ⟨b1, c⟩ := He.ba c
    obtain ⟨b2, c⟩ := He.ba c
    obtain ⟨b3, c⟩ := He.ba c
    obtain ⟨b4, c⟩ := He.ba c
    obtain ⟨b5, c⟩ := He.ba c
    obtain ⟨b6, c⟩ := He.ba c
    obtain ⟨b7, c⟩ := He.ba c
    obtain ⟨b8, c⟩ := He.ba c
    obtain ⟨b9, c⟩ := He.ba c
    obtain ⟨b10, c⟩ := He.ba c
    obtain ⟨b11, c⟩ := He.ba c
    obtain ⟨b12, c⟩ := He.ba c
    obtain ⟨b13, c⟩ := He.ba c
    split at b1
    · rename_i n cc hclo
      obtain ⟨b1a, b1b⟩ := He.ba b1
      have en : n = "__class__" := of_decide_eq_true b1a
      subst en
      split at b1b
      · rename_i cl cld C' csl hcell
        have eC : C' = He.ga K e.x := of_decide_eq_true b1b
        subst eC
        split at b2
        · rename_i cda hcode
          split at b2
          · rename_i ccl cdd vs ccs hcd
            split at b2
            · rename_i file tf hvs
              refine ⟨He.ga K e.x, He.ma K (He.ga K e.x) "__init__", e.b.B, e.b.newId, e.b.initId, e.b.bm, fd, cc, cda, "self", hΓ, mg_of X G (He.eqO_ok a1), ?_, ?_, L2.xfB_ok a15⟩
              · exact ⟨he.bf.eb, he.bf.ks, he.bf.sf, a2, a3, a4, He.eqO_ok a5, He.eqO_ok a6, of_decide_eq_true a7, of_decide_eq_true a8, of_decide_eq_true a9, of_decide_eq_true a10, a11, ⟨_, _, _, hf⟩, hclo, ⟨_, _, _, hcell⟩, hcode, b3, ⟨_, _, _, _, _, _, hcd, hvs, b2⟩, He.eqO_ok a12, htop, He.eqO_ok a13, He.eqO_ok a14, of_decide_eq_true b4, of_decide_eq_true b5, of_decide_eq_true b6, of_decide_eq_true b7, of_decide_eq_true b8, fun y hy => of_decide_eq_true (List.all_eq_true.mp b9 y hy), of_decide_eq_true b10, of_decide_eq_true b11⟩
              · refine ⟨?_, he.nd, fun y hy => ?_, fun hs y hy => ?_, ?_, fun s us hl => .of_eq (he.bind fd p1 p2 us hl), he.len⟩
                · unfold bodyB at b12
                  split at b12
                  · rename_i su p0 p1 ini p2 ex p3 p4 r hb
                    obtain ⟨d1, b12⟩ := He.ba b12
                    obtain ⟨d2, b12⟩ := He.ba b12
                    obtain ⟨d3, b12⟩ := He.ba b12
                    obtain ⟨d4, d5⟩ := He.ba b12
                    have e1 : su = "super" := of_decide_eq_true d1
                    have e2 : ini = "__init__" := of_decide_eq_true d2
                    subst e1 e2
                    refine ⟨ex, p0, p1, p2, p3, p4, r, hb, d3, asgB_ok d4, ?_⟩
                    split at d5
                    · exact .inl ⟨_, _, _, rfl⟩
                    · exact .inr ⟨_, _, rfl, of_decide_eq_true d5⟩
                    · cases d5
                  · cases b12
                · obtain ⟨q1, q2⟩ := He.ba (List.all_eq_true.mp b13 y hy)
                  exact ⟨of_decide_eq_true q1, by simpa using q2⟩
                · rw [hs] at a16
                  exact He.eqO_ok (List.all_eq_true.mp (by simpa using a16) y hy)
                · split at c
                  · rename_i ar har
                    exact ⟨ar, har, of_decide_eq_true c⟩
                  · cases c
            · cases b2
          · cases b2
        · cases b2
      · cases b1b
    · cases b1
  · cases c
end
/-! ### the Hook -/
abbrev AlX : Type := He.AlD × Bool × List (Bool × Option (Arguments × Value))
def exmB (K : Frag) (ecs : List EC) : Bool := ecs.all fun a => ecs.all fun b => decide (exmOne K (.ref (He.ga K a.x)) (.ref (He.ga K b.x)) = some (decide (b.id = a.id)))
def obsX (f : Str) (fa : List He.Fa) (fn : List He.DefD) (ecs : List EC) (K : Frag) : AlX := (He.obsD fa fn K, exmB K ecs, ecs.map fun e => (errB K f e, prmX K e))
def valX (fn : List He.DefD) (ecs : List EC) : AlX := (He.valD fn, true, ecs.map fun e => (true, some (e.prm, .none)))
def SaysX (f : Str) (fa : List He.Fa) (fn : List He.DefD) (ecs : List EC) (K : Frag) : Prop := obsX f fa fn ecs K = valX fn ecs
def asX (g : Addr → Option Obj) (n : Nat) : List Addr := He.asD g n ++ [cStatics]
def obsXG (n : Nat) (f : Str) (fa : List He.Fa) (fn : List He.DefD) (ecs : List EC) (g : Addr → Option Obj) : AlX := obsX f fa fn ecs (He.frG g (asX g n))
def hookX (n : Nat) (f : Str) (fa : List He.Fa) (fn : List He.DefD) (ecs : List EC) : PySem.W.Hook where
  α := AlX
  obs := fun s => obsXG n f fa fn ecs s.heap.get?
  val := fun _ => valX fn ecs
  says := fun _ h => ∃ K : Frag, K.In h ∧ SaysX f fa fn ecs K
  of := fun _ _ e => ⟨_, He.frG_in, e⟩
  keeps := fun _ _ _ ⟨K, hK, c⟩ k => ⟨K, Frag.In.keeps hK k, c⟩
theorem obsXG_eq {n : Nat} {f : Str} {fa : List He.Fa} {fn : List He.DefD} {ecs : List EC} {g : Addr → Option Obj} {s : Shared} (h : ∀ a, g a = s.heap.get? a) : obsXG n f fa fn ecs g = (hookX n f fa fn ecs).obs s := by
  have e : g = s.heap.get? := funext h
  rw [e] <;> rfl
section
variable {f : Str} {fa : List He.Fa} {fn : List He.DefD} {ecs : List EC} {K : Frag} {h : Heap} {mg : Str → Option Value} {prog : Program}
theorem SaysX.d (c : SaysX f fa fn ecs K) : He.SaysD fa fn K := congrArg (fun z : AlX => z.1) c
theorem SaysX.ec (c : SaysX f fa fn ecs K) {e : EC} (m : e ∈ ecs) : errB K f e = true ∧ prmX K e = some (e.prm, .none) := by
  have c2 : (ecs.map fun e => (errB K f e, prmX K e)) = ecs.map fun e => (true, some (e.prm, .none)) := congrArg (fun z : AlX => z.2.2) c
  have c3 := (List.map_inj_left.mp c2) e m
  exact ⟨congrArg Prod.fst c3, congrArg Prod.snd c3⟩
theorem find_id : ∀ {l : List EC} {e : EC}, (l.map (·.id)).Nodup → e ∈ l → (l.find? fun z => decide (z.id = e.id)) = some e
  | [], e, _, m => by cases m
  | a :: l, e, nd, m => by
    rw [List.map_cons, List.nodup_cons] at nd
    by_cases q : a = e
    · subst q; simp
    · have m' : e ∈ l := by
        rcases List.mem_cons.mp m with z | z
        · exact absurd z.symm q
        · exact z
      have ne : ¬ a.id = e.id := fun z => nd.1 (by rw [z]; exact List.mem_map_of_mem m')
      rw [List.find?_cons_of_neg (by simpa using ne)]
      exact find_id nd.2 m'
theorem SaysX.cls (c : SaysX (prog.main.file : Str) fa fn ecs K) (X : K.In h) (G : h.Ns mainGlobals mg) (hnd : (ecs.map (·.id)).Nodup) (hec : ∀ e ∈ ecs, EcOk e) (htop : (prog.main.scope.names.lookup ("super" : Str)).isSome = false)
    (i : Nat) (x : Str) (ps : List Str) (st : Bool) (e : (ecs.map fun e => (e.id, e.x, e.ps, e.st)).lookup i = some (x, ps, st)) : ClsOk prog K mg (gamOf K ecs) i x ps st := by
  obtain ⟨j, ej⟩ := lookup_at e
  rw [List.getElem?_map] at ej
  cases q : ecs[j]? with
  | none => rw [q] at ej; cases ej
  | some ec =>
    rw [q] at ej
    have m := List.mem_of_getElem? q
    obtain ⟨c1, c2⟩ := c.ec m
    cases ej
    exact cls_of X G (hec ec m) htop c1 c2 (by unfold gamOf; rw [find_id hnd m]; rfl)
theorem SaysX.exm (c : SaysX f fa fn ecs K) (i j : Nat) (Ci Cj : Addr) (fi fj : List Str) (e1 : gamOf K ecs i = some (Ci, fi)) (e2 : gamOf K ecs j = some (Cj, fj)) : exmOne K (.ref Ci) (.ref Cj) = some (decide (j = i)) := by
  have c2 : exmB K ecs = true := congrArg (fun z : AlX => z.2.1) c
  unfold gamOf at e1 e2
  cases q1 : ecs.find? (fun e => decide (e.id = i)) with
  | none => rw [q1] at e1; cases e1
  | some a =>
    cases q2 : ecs.find? (fun e => decide (e.id = j)) with
    | none => rw [q2] at e2; cases e2
    | some b =>
      rw [q1] at e1
      rw [q2] at e2
      cases e1
      cases e2
      have i1 : a.id = i := by simpa using List.find?_some q1
      have i2 : b.id = j := by simpa using List.find?_some q2
      subst i1 i2
      exact of_decide_eq_true (List.all_eq_true.mp (List.all_eq_true.mp c2 a (List.mem_of_find?_eq_some q1)) b (List.mem_of_find?_eq_some q2))
end
end G

/-! G23: helps for plain laws; the law's own drawing. -/
namespace G
theorem sem_succ {P : Nat → Option Fn} {k f : Nat} {fn : Fn} {ds : List D} {h : Hp} (hd : P f = some fn) : sem P (k + 1) f ds h = runFn (sem P k) fn ds h := by
  simp only [sem, hd]
theorem log2_le {n p : Nat} (h : n < 2 ^ p) : n.log2 ≤ p := by
  by_cases z : n = 0
  · subst z; simp
  · exact Nat.le_of_lt ((Nat.log2_lt z).mpr h)
theorem mulOk_of {i j : Int} (p q : Nat) (hi : i.natAbs < 2 ^ p) (hj : j.natAbs < 2 ^ q) (h : p + q < 1000000) : mulOk i j = true := by
  have := log2_le hi
  have := log2_le hj
  simp only [mulOk, decide_eq_true_eq]
  omega
theorem divOk_of {j : Int} (p : Nat) (h0 : 0 < j) (hj : j.natAbs < 2 ^ p) (h : p < 9000) : divOk j = true := by
  have := log2_le hj
  simp only [divOk, Bool.and_eq_true, decide_eq_true_eq]
  omega
/-! ### steps of an evaluation -/
section
variable {α γ : Type} {h : Hp} {ρ : Env}
@[simp] theorem r_bind (a : α) (f : α → Hp → R γ) : (R.ok a h).bind f = f a h := rfl
@[simp] theorem r_st (a : α) (b : Bool) (f : α → Hp → SR) : (R.ok a h).st b ρ f = f a h := rfl
@[simp] theorem r_opt (a : α) : opt h (some a) = .ok a h := rfl
@[simp] theorem r_bool (b : Bool) : boolR h (some b) = .ok (.val (.bl b)) h := rfl
@[simp] theorem r_when (a : α) : when_ true h a = .ok a h := rfl
@[simp] theorem tru_b (b : Bool) : tru h (.val (.bl b)) = some b := rfl
@[simp] theorem tru_i (i : Int) : tru h (.val (.int i)) = some (i != 0) := rfl
@[simp] theorem eqV_i (i j : Int) : eqV h (.val (.int i)) (.val (.int j)) = some (decide (i = j)) := rfl
@[simp] theorem eqV_s (i j : List Nat) : eqV h (.val (.str i)) (.val (.str j)) = some (decide (i = j)) := rfl
@[simp] theorem cmp_eq (x y : Rv) : cmpV h .eq x y = boolR h (eqV h x y) := rfl
@[simp] theorem cmp_ne (x y : Rv) : cmpV h .ne x y = boolR h ((eqV h x y).map (!·)) := rfl
@[simp] theorem cmp_lt (i j : Int) : cmpV h .lt (.val (.int i)) (.val (.int j)) = .ok (.val (.bl (decide (i < j)))) h := rfl
@[simp] theorem cmp_gt (i j : Int) : cmpV h .gt (.val (.int i)) (.val (.int j)) = .ok (.val (.bl (decide (j < i)))) h := rfl
@[simp] theorem cmp_le (i j : Int) : cmpV h .le (.val (.int i)) (.val (.int j)) = .ok (.val (.bl (!decide (j < i)))) h := rfl
@[simp] theorem cmp_ge (i j : Int) : cmpV h .ge (.val (.int i)) (.val (.int j)) = .ok (.val (.bl (!decide (i < j)))) h := rfl
@[simp] theorem cmp_isN (x : Rv) : cmpV h .is x (.val .non) = .ok (.val (.bl (match x with | .val .non => true | _ => false))) h := rfl
@[simp] theorem bin_add (i j : Int) : binV h .add (.val (.int i)) (.val (.int j)) = .ok (.val (.int (i + j))) h := rfl
@[simp] theorem bin_sub (i j : Int) : binV h .sub (.val (.int i)) (.val (.int j)) = .ok (.val (.int (i - j))) h := rfl
@[simp] theorem bin_mul (i j : Int) : binV h .mul (.val (.int i)) (.val (.int j)) = when_ (mulOk i j) h (.val (.int (i * j))) := rfl
@[simp] theorem bin_fdiv (i j : Int) : binV h .fdiv (.val (.int i)) (.val (.int j)) = when_ (divOk j) h (.val (.int (i / j))) := rfl
@[simp] theorem bin_mod (i j : Int) : binV h .mod (.val (.int i)) (.val (.int j)) = when_ (decide (0 < j)) h (.val (.int (i % j))) := rfl
@[simp] theorem bin_pow (i j : Int) : binV h .pow (.val (.int i)) (.val (.int j)) = when_ (powOk i j) h (.val (.int (i ^ j.toNat))) := rfl
@[simp] theorem b1_i (i : Int) : b1V h .int (.val (.int i)) = .ok (.val (.int i)) h := rfl
@[simp] theorem b2_mn (i j : Int) : b2V h .min (.val (.int i)) (.val (.int j)) = .ok (.val (.int (if j < i then j else i))) h := rfl
@[simp] theorem isi_i (t : Ty) (i : Int) : tyIs t (.val (.int i)) h = some (match t with | .int => true | _ => false) := rfl
@[simp] theorem isi_n (t : Ty) : tyIs t (.val .non) h = some false := rfl
end
@[simp] theorem lim_1 : (1 ≤ lim) = True := by simp [ev, tst, evs, evo, evi, exs, ex, tsts, boxOne, boxAll, bindTg, lim]
@[simp] theorem lim_2 : (2 ≤ lim) = True := by simp [ev, tst, evs, evo, evi, exs, ex, tsts, boxOne, boxAll, bindTg, lim]
@[simp] theorem lim_3 : (3 ≤ lim) = True := by simp [ev, tst, evs, evo, evi, exs, ex, tsts, boxOne, boxAll, bindTg, lim]
@[simp] theorem lim_4 : (4 ≤ lim) = True := by simp [ev, tst, evs, evo, evi, exs, ex, tsts, boxOne, boxAll, bindTg, lim]
@[simp] theorem lim_5 : (5 ≤ lim) = True := by simp [ev, tst, evs, evo, evi, exs, ex, tsts, boxOne, boxAll, bindTg, lim]
@[simp] theorem lim_6 : (6 ≤ lim) = True := by simp [ev, tst, evs, evo, evi, exs, ex, tsts, boxOne, boxAll, bindTg, lim]
@[simp] theorem lim_7 : (7 ≤ lim) = True := by simp [ev, tst, evs, evo, evi, exs, ex, tsts, boxOne, boxAll, bindTg, lim]
@[simp] theorem lim_8 : (8 ≤ lim) = True := by simp [ev, tst, evs, evo, evi, exs, ex, tsts, boxOne, boxAll, bindTg, lim]
@[simp] theorem lim_9 : (9 ≤ lim) = True := by simp [ev, tst, evs, evo, evi, exs, ex, tsts, boxOne, boxAll, bindTg, lim]
@[simp] theorem lim_10 : (10 ≤ lim) = True := by simp [ev, tst, evs, evo, evi, exs, ex, tsts, boxOne, boxAll, bindTg, lim]
@[simp] theorem lim_11 : (11 ≤ lim) = True := by simp [ev, tst, evs, evo, evi, exs, ex, tsts, boxOne, boxAll, bindTg, lim]
@[simp] theorem lim_12 : (12 ≤ lim) = True := by simp [ev, tst, evs, evo, evi, exs, ex, tsts, boxOne, boxAll, bindTg, lim]
@[simp] theorem lim_13 : (13 ≤ lim) = True := by simp [ev, tst, evs, evo, evi, exs, ex, tsts, boxOne, boxAll, bindTg, lim]
@[simp] theorem lim_14 : (14 ≤ lim) = True := by simp [ev, tst, evs, evo, evi, exs, ex, tsts, boxOne, boxAll, bindTg, lim]
@[simp] theorem lim_15 : (15 ≤ lim) = True := by simp [ev, tst, evs, evo, evi, exs, ex, tsts, boxOne, boxAll, bindTg, lim]
@[simp] theorem lim_16 : (16 ≤ lim) = True := by simp [ev, tst, evs, evo, evi, exs, ex, tsts, boxOne, boxAll, bindTg, lim]
def kCells : List Nat := [99, 101, 108, 108, 115]
def kLeft : List Nat := [108, 101, 102, 116]
def kAt : List Nat := [97, 116]
def drObj (c p : Nat) (at_ : Int) : O := .dk [(.str kCells, .ref c), (.str kLeft, .ref p), (.str kAt, .int at_)]
/-- the drawing's state: at m the dict, at c the cells, at p what is left -/
structure Dr (h : Hp) (m c p : Nat) (K : Int) : Prop where
  ex : ∃ (cells left : List Int) (at_ : Int), h[m]? = some (drObj c p at_) ∧ h[c]? = some (.lst (cells.map .int)) ∧ h[p]? = some (.lst (left.map .int)) ∧ (∀ x ∈ left, 0 ≤ x) ∧ left.length ≤ 1000 ∧ cells.length ≤ 1000 ∧ 0 ≤ at_ ∧ at_ ≤ K
  cp : c ≠ p
  cm : c ≠ m
  pm : p ≠ m
theorem all_dok (h : Hp) (n : Nat) (l : List Int) : (l.map D.int).all (dok h (n + 1)) = true := by
  rw [List.all_eq_true]
  intro x hx
  obtain ⟨i, _, rfl⟩ := List.mem_map.mp hx
  rfl
theorem eq_nil {h : Hp} {p : Nat} {l : List Int} (e : h[p]? = some (.lst (l.map .int))) : eqV h (.val (.ref p)) (.new (.lst [])) = some l.isEmpty := by
  have hp : p < h.length := (List.getElem?_eq_some_iff.mp e).1
  have e1 : (h ++ [O.lst []])[p]? = some (.lst (l.map .int)) := by rw [List.getElem?_append_left hp]; exact e
  have e2 : (h ++ [O.lst []])[h.length]? = some (.lst []) := by simp
  have d1 : dok (h ++ [O.lst []]) 60 (.ref p) = true := by
    simp only [dok, e1, Option.bind, lstIn]
    exact all_dok _ 58 l
  have d2 : dok (h ++ [O.lst []]) 60 (.ref h.length) = true := by
    simp only [dok, e2, Option.bind, lstIn]
    rfl
  simp only [eqV, d1, d2, Bool.and_self, if_true]
  simp only [deq, e1, e2, Option.bind, lstIn]
  cases l <;> rfl
theorem idx_left {h : Hp} {m c p : Nat} {a : Int} (e : h[m]? = some (drObj c p a)) : idxV h (.val (.ref m)) (.val (.str kLeft)) = .ok (.val (.ref p)) h := by
  simp [ev, tst, evs, evo, evi, exs, ex, tsts, boxOne, boxAll, bindTg, idxV, objOf, e, idxO, drObj, dget, keyOk, look, D.beq, kCells, kLeft, kAt, opt]
theorem idx_cells {h : Hp} {m c p : Nat} {a : Int} (e : h[m]? = some (drObj c p a)) : idxV h (.val (.ref m)) (.val (.str kCells)) = .ok (.val (.ref c)) h := by
  simp [ev, tst, evs, evo, evi, exs, ex, tsts, boxOne, boxAll, bindTg, idxV, objOf, e, idxO, drObj, dget, keyOk, look, D.beq, kCells, kLeft, kAt, opt]
theorem idx_at {h : Hp} {m c p : Nat} {a : Int} (e : h[m]? = some (drObj c p a)) : idxV h (.val (.ref m)) (.val (.str kAt)) = .ok (.val (.int a)) h := by
  simp [ev, tst, evs, evo, evi, exs, ex, tsts, boxOne, boxAll, bindTg, idxV, objOf, e, idxO, drObj, dget, keyOk, look, D.beq, kCells, kLeft, kAt, opt]
theorem idx_head {h : Hp} {p : Nat} {x : Int} {l : List Int} (e : h[p]? = some (.lst ((x :: l).map .int))) : idxV h (.val (.ref p)) (.val (.int 0)) = .ok (.val (.int x)) h := by
  have e' : h[p]? = some (.lst (.int x :: l.map .int)) := e
  simp [ev, tst, evs, evo, evi, exs, ex, tsts, boxOne, boxAll, bindTg, idxV, objOf, e', idxO, atI, ixN, opt]
/-- the text of the drawing, as most laws have it -/
def bNext : Ss := (.cons (.whl (.and (.cmp .ne (.idx (.var 0) (.c (.str kLeft))) (.lst .nil)) (.cmp .eq (.idx (.idx (.var 0) (.c (.str kLeft))) (.c (.int 0))) (.c (.int 0)))) (.cons (.set (.var 0) (.c (.str kLeft)) (.slc (.idx (.var 0) (.c (.str kLeft))) (.some (.c (.int 1))) .none)) .nil)) .nil)
theorem next_test (C : Nat → List D → Hp → R Rv) {h : Hp} {m c p : Nat} {a : Int} {l : List Int} {ρ : Env} (hρ : ρ[0]? = some (some (.ref m))) (e : h[m]? = some (drObj c p a)) (el : h[p]? = some (.lst (l.map .int))) :
    tst C (.and (.cmp .ne (.idx (.var 0) (.c (.str kLeft))) (.lst .nil)) (.cmp .eq (.idx (.idx (.var 0) (.c (.str kLeft))) (.c (.int 0))) (.c (.int 0)))) ρ h = .ok (match l with | [] => false | x :: _ => decide (x = 0)) h := by
  cases l with
  | nil => simp [ev, tst, evs, evo, evi, exs, ex, tsts, boxOne, boxAll, bindTg, hρ, idx_left e, eq_nil el]
  | cons x l => simp [ev, tst, evs, evo, evi, exs, ex, tsts, boxOne, boxAll, bindTg, hρ, idx_left e, eq_nil el, idx_head el]
end G

/-! G24: the law's own drawing. -/
namespace G
theorem slc_tail {h : Hp} {p : Nat} {x : Int} {l : List Int} (e : h[p]? = some (.lst ((x :: l).map .int))) : slcV h (.val (.ref p)) (some (.int 1)) none = .ok (.new (.lst (l.map .int))) h := by
  have e' : h[p]? = some (.lst (.int x :: l.map .int)) := e
  simp [ev, tst, evs, evo, evi, exs, ex, tsts, boxOne, boxAll, bindTg, slcV, optI, lstOf, objOf, e', lstIn, cut, sIx]
  rw [List.take_of_length_le (by simp)]
theorem put_left {c p q : Nat} {a : Int} : dput (.str kLeft) (.ref q) (drObj c p a) = some (drObj c q a) := by
  simp [ev, tst, evs, evo, evi, exs, ex, tsts, boxOne, boxAll, bindTg, dput, drObj, keyOk, lim, put, D.beq, kCells, kLeft, kAt]
theorem put_at {c p : Nat} {a b : Int} : dput (.str kAt) (.int b) (drObj c p a) = some (drObj c p b) := by
  simp [ev, tst, evs, evo, evi, exs, ex, tsts, boxOne, boxAll, bindTg, dput, drObj, keyOk, lim, put, D.beq, kCells, kLeft, kAt]
theorem set_left {h : Hp} {m c p : Nat} {a : Int} {xs : List D} (e : h[m]? = some (drObj c p a)) : setV h (.val (.ref m)) (.val (.str kLeft)) (.new (.lst xs)) = some ((h ++ [O.lst xs]).set m (drObj c h.length a)) := by
  have hm : m < h.length := (List.getElem?_eq_some_iff.mp e).1
  have e' : (h ++ [O.lst xs])[m]? = some (drObj c p a) := by rw [List.getElem?_append_left hm]; exact e
  simp only [setV, boxOne]
  rw [e']
  simp only [drObj]
  rw [show O.dk [(D.str kCells, D.ref c), (D.str kLeft, D.ref p), (D.str kAt, D.int a)] = drObj c p a from rfl, put_left]
  rfl
theorem set_at {h : Hp} {m c p : Nat} {a b : Int} (e : h[m]? = some (drObj c p a)) : setV h (.val (.ref m)) (.val (.str kAt)) (.val (.int b)) = some (h.set m (drObj c p b)) := by
  simp only [setV, boxOne]
  rw [e]
  simp only [drObj]
  rw [show O.dk [(D.str kCells, D.ref c), (D.str kLeft, D.ref p), (D.str kAt, D.int a)] = drObj c p a from rfl, put_at]
  rfl
theorem set_head {h : Hp} {p : Nat} {x y : Int} {l : List Int} (e : h[p]? = some (.lst ((x :: l).map .int))) : setV h (.val (.ref p)) (.val (.int 0)) (.val (.int y)) = some (h.set p (.lst ((y :: l).map .int))) := by
  have e' : h[p]? = some (.lst (.int x :: l.map .int)) := e
  simp [ev, tst, evs, evo, evi, exs, ex, tsts, boxOne, boxAll, bindTg, setV, e', ixN]
def nextT : E := .and (.cmp .ne (.idx (.var 0) (.c (.str kLeft))) (.lst .nil)) (.cmp .eq (.idx (.idx (.var 0) (.c (.str kLeft))) (.c (.int 0))) (.c (.int 0)))
def nextW : Ss := .cons (.set (.var 0) (.c (.str kLeft)) (.slc (.idx (.var 0) (.c (.str kLeft))) (.some (.c (.int 1))) .none)) .nil
section
variable (C : Nat → List D → Hp → R Rv)
theorem next_while {m c : Nat} {a : Int} {cells : List Int} {ρ : Env} (hρ : ρ[0]? = some (some (.ref m))) (cm : c ≠ m) : ∀ (l : List Int) (n : Nat) (h : Hp) (p : Nat), l.length < n → h[m]? = some (drObj c p a) → h[c]? = some (.lst (cells.map .int)) → h[p]? = some (.lst (l.map .int)) → c ≠ p → p ≠ m →
    ∃ h' p' l', whileL (tst C nextT) (exs C nextW) n ρ h = .nx ρ h' ∧ h'[m]? = some (drObj c p' a) ∧ h'[c]? = some (.lst (cells.map .int)) ∧ h'[p']? = some (.lst (l'.map .int)) ∧ (∀ x r, l' = x :: r → x ≠ 0) ∧ (∀ x ∈ l', x ∈ l) ∧ l'.length ≤ l.length ∧ c ≠ p' ∧ p' ≠ m ∧ (p' = p ∨ h.length ≤ p') ∧ h.length ≤ h'.length ∧ ∀ i, i < h.length → i ≠ m → h'[i]? = h[i]?
  | l, 0, h, p, hn, _, _, _, _, _ => by omega
  | [], n + 1, h, p, hn, em, ec, ep, cp, pm => by
    refine ⟨h, p, [], ?_, em, ec, ep, (fun x r z => by cases z), (fun x z => z), Nat.le_refl _, cp, pm, .inl rfl, Nat.le_refl _, fun i _ _ => rfl⟩
    have t : tst C nextT ρ h = .ok false h := next_test C hρ em ep
    simp only [whileL, t]
  | x :: l, n + 1, h, p, hn, em, ec, ep, cp, pm => by
    have t : tst C nextT ρ h = .ok (decide (x = 0)) h := next_test C hρ em ep
    by_cases hx : x = 0
    · have b : exs C nextW ρ h = .nx ρ ((h ++ [O.lst (l.map .int)]).set m (drObj c h.length a)) := by
        simp [ev, tst, evs, evo, evi, exs, ex, tsts, boxOne, boxAll, bindTg, nextW, hρ, idx_left em, slc_tail ep, set_left em]
      have hm : m < h.length := (List.getElem?_eq_some_iff.mp em).1
      have hc : c < h.length := (List.getElem?_eq_some_iff.mp ec).1
      obtain ⟨h', p', l', w, q1, q2, q3, q4, q5, q6, q7, q8, q9, q10, q11⟩ := next_while hρ cm l n ((h ++ [O.lst (l.map .int)]).set m (drObj c h.length a)) h.length (by simp at hn; omega)
        (by rw [List.getElem?_set_self (by simp; omega)]) (by rw [List.getElem?_set_ne (fun z => cm z.symm), List.getElem?_append_left hc]; exact ec)
        (by rw [List.getElem?_set_ne (by omega)]; simp) (by omega) (by omega)
      refine ⟨h', p', l', ?_, q1, q2, q3, q4, (fun y z => by simp [ev, tst, evs, evo, evi, exs, ex, tsts, boxOne, boxAll, bindTg, q5 y z]), by simp; omega, q7, q8, ?_, by simp at q10; omega, fun i hi him => ?_⟩
      · simp only [whileL, t, hx, decide_true, b]
        exact w
      · simp at q9
        omega
      · rw [q11 i (by simp; omega) him, List.getElem?_set_ne (fun z => him z.symm), List.getElem?_append_left hi]
    · refine ⟨h, p, x :: l, ?_, em, ec, ep, (fun y r z => by cases z; exact hx), (fun x z => z), Nat.le_refl _, cp, pm, .inl rfl, Nat.le_refl _, fun i _ _ => rfl⟩
      simp only [whileL, t, hx, decide_false]
end
def nextC : E := .ife (.cmp .ne (.idx (.var 0) (.c (.str kCells))) (.lst .nil)) (.idx (.idx (.var 0) (.c (.str kCells))) (.bin .mod (.b1 .int (.var 2)) (.b1 .len (.idx (.var 0) (.c (.str kCells)))))) (.c (.int 3))
def nextI : S := .ife (.cmp .ne (.idx (.var 0) (.c (.str kLeft))) (.lst .nil)) (.cons (.asg 5 (.b1 .int (.idx (.idx (.var 0) (.c (.str kLeft))) (.c (.int 0))))) (.cons (.set (.idx (.var 0) (.c (.str kLeft))) (.c (.int 0)) (.bin .fdiv (.var 5) (.var 1))) (.cons (.ret (.bin .mod (.var 5) (.var 1))) .nil))) .nil
def nextR : Ss := (.cons nextI (.cons (.asg 2 (.bin .add (.idx (.var 0) (.c (.str kAt))) (.c (.int 1)))) (.cons (.set (.var 0) (.c (.str kAt)) (.var 2)) (.cons (.asg 3 nextC) (.cons (.asg 4 (.bin .mul (.b1 .int (.bin .add (.bin .add (.bin .mod (.b1 .int (.var 3)) (.c (.int 2147483629))) (.bin .mul (.c (.int 7919)) (.var 2))) (.bin .mul (.bin .mul (.c (.int 19)) (.var 2)) (.var 2)))) 
(.c (.int 48271)))) (.cons (.asg 4 (.bin .mul (.b1 .int (.bin .add (.bin .mod (.b1 .int (.var 4)) (.c (.int 2147483647))) (.bin .mul (.c (.int 104729)) (.var 2)))) (.c (.int 69621)))) (.cons (.ret (.bin .mod (.b1 .int (.bin .fdiv (.bin .mod (.b1 .int (.var 4)) (.c (.int 2147483587))) (.c (.int 11)))) (.var 1))) .nil)))))))
def nextB : Ss := .cons (.whl nextT nextW) nextR
section
variable (C : Nat → List D → Hp → R Rv)
theorem len_lst {h : Hp} {c : Nat} {xs : List D} (e : h[c]? = some (.lst xs)) (hl : xs.length ≤ 1000) : b1V h .len (.val (.ref c)) = .ok (.val (.int xs.length)) h := by
  have : xs.length ≤ lim := by simp only [lim]; omega
  simp [ev, tst, evs, evo, evi, exs, ex, tsts, boxOne, boxAll, bindTg, b1V, lenOf, e, this]
theorem idx_int {h : Hp} {c : Nat} {xs : List Int} {i : Int} (e : h[c]? = some (.lst (xs.map .int))) (h0 : 0 ≤ i) (h1 : i < xs.length) : ∃ x, idxV h (.val (.ref c)) (.val (.int i)) = .ok (.val (.int x)) h := by
  have hi : i.toNat < xs.length := by omega
  refine ⟨xs[i.toNat], ?_⟩
  simp [ev, tst, evs, evo, evi, exs, ex, tsts, boxOne, boxAll, bindTg, idxV, objOf, e, idxO, atI, ixN, h0, h1, hi]
theorem next_rest {h : Hp} {m c p : Nat} {a K total : Int} {cells l : List Int} (ht : 0 < total) (hb : total < 2 ^ 200) (hK : K < 2 ^ 60) (a0 : 0 ≤ a) (aK : a ≤ K) (hcl : cells.length ≤ 1000) (cm : c ≠ m) (pm : p ≠ m) (cp : c ≠ p)
    (em : h[m]? = some (drObj c p a)) (ec : h[c]? = some (.lst (cells.map .int))) (ep : h[p]? = some (.lst (l.map .int))) (hl0 : ∀ x ∈ l, 0 ≤ x) :
    ∃ (r : Int) (h' : Hp) (l' : List Int) (a' : Int), exs C nextR [some (.ref m), some (.int total), none, none, none, none] h = .rt (.val (.int r)) h' ∧ 0 ≤ r ∧ r < total ∧ h'[m]? = some (drObj c p a') ∧ h'[c]? = some (.lst (cells.map .int)) ∧ h'[p]? = some (.lst (l'.map .int)) ∧ (∀ x ∈ l', 0 ≤ x) ∧ l'.length = l.length ∧ 0 ≤ a' ∧ a' ≤ K + 1 ∧ h'.length = h.length ∧ ∀ i, i ≠ m → i ≠ p → h'[i]? = h[i]? := by
  have dv : divOk total = true := divOk_of 200 ht (by omega) (by omega)
  cases l with
  | cons x l =>
    have hp : p < h.length := (List.getElem?_eq_some_iff.mp ep).1
    refine ⟨x % total, h.set p (.lst ((x / total :: l).map .int)), x / total :: l, a, ?_, Int.emod_nonneg _ (by omega), Int.emod_lt_of_pos _ ht, ?_, ?_, ?_, ?_, rfl, a0, by omega, by simp, fun i him hip => ?_⟩
    · simp [ev, tst, evs, evo, evi, exs, ex, tsts, boxOne, boxAll, bindTg, nextR, nextI, idx_left em, eq_nil ep, idx_head ep, dv, set_head ep, ht]
    · rw [List.getElem?_set_ne pm]; exact em
    · rw [List.getElem?_set_ne (fun z => cp z.symm)]; exact ec
    · rw [List.getElem?_set_self hp]
    · intro y hy
      rcases List.mem_cons.mp hy with rfl | hy
      · exact Int.ediv_nonneg (hl0 x (by simp)) (by omega)
      · exact hl0 y (by simp [ev, tst, evs, evo, evi, exs, ex, tsts, boxOne, boxAll, bindTg, hy])
    · rw [List.getElem?_set_ne (fun z => hip z.symm)]
  | nil =>
    have hm : m < h.length := (List.getElem?_eq_some_iff.mp em).1
    have em' : (h.set m (drObj c p (a + 1)))[m]? = some (drObj c p (a + 1)) := by rw [List.getElem?_set_self hm]
    have ec' : (h.set m (drObj c p (a + 1)))[c]? = some (.lst (cells.map .int)) := by rw [List.getElem?_set_ne (fun z => cm z.symm)]; exact ec
    have ep' : (h.set m (drObj c p (a + 1)))[p]? = some (.lst ((([] : List Int)).map .int)) := by rw [List.getElem?_set_ne (fun z => pm z.symm)]; exact ep
    have cell : ∃ x : Int, ev C nextC [some (.ref m), some (.int total), some (.int (a + 1)), none, none, none] (h.set m (drObj c p (a + 1))) = .ok (.val (.int x)) (h.set m (drObj c p (a + 1))) := by
      cases cells with
      | nil => exact ⟨3, by simp [ev, tst, evs, evo, evi, exs, ex, tsts, boxOne, boxAll, bindTg, nextC, idx_cells em', eq_nil ec']⟩
      | cons y ys =>
        have hpos : (0 : Int) < ((y :: ys).length : Nat) := by simp
        obtain ⟨x, ex⟩ := idx_int (i := (a + 1) % ((y :: ys).length : Nat)) ec' (Int.emod_nonneg _ (by omega)) (Int.emod_lt_of_pos _ hpos)
        have ln := len_lst ec' (by simpa using hcl)
        have ln2 : b1V (h.set m (drObj c p (a + 1))) .len (.val (.ref c)) = .ok (.val (.int ((y :: ys).length : Nat))) (h.set m (drObj c p (a + 1))) := by rw [ln]; simp
        refine ⟨x, ?_⟩
        simp only [nextC, ev, tst, evs, boxAll, r_bind, r_opt, List.getElem?_cons_zero, idx_cells em', r_when, List.length_nil, Nat.zero_le, decide_true, cmp_ne, eq_nil ec', Option.map_some, r_bool, tru_b, List.isEmpty_cons, Bool.not_false, List.getElem?_cons_succ, b1_i, ln2, bin_mod, hpos, ex]
    obtain ⟨x, ecell⟩ := cell
    have k0 : (a + 1).natAbs < 2 ^ 61 := by omega
    have m1 : mulOk 7919 (a + 1) = true := mulOk_of 100 61 (by decide) k0 (by omega)
    have m2 : mulOk 19 (a + 1) = true := mulOk_of 100 61 (by decide) k0 (by omega)
    have b2 : (19 * (a + 1)).natAbs < 2 ^ 70 := by omega
    have m3 : mulOk (19 * (a + 1)) (a + 1) = true := mulOk_of 70 61 b2 k0 (by omega)
    have c1 : 0 ≤ x % 2147483629 := Int.emod_nonneg _ (by decide)
    have c2 : x % 2147483629 < 2147483629 := Int.emod_lt_of_pos _ (by decide)
    have b3 : (19 * (a + 1) * (a + 1)).natAbs < 2 ^ 131 := by
      rw [Int.natAbs_mul]
      exact Nat.lt_of_lt_of_le (Nat.mul_lt_mul'' b2 k0) (by rw [← Nat.pow_add]; exact Nat.le_refl _)
    have b4 : (x % 2147483629 + 7919 * (a + 1) + 19 * (a + 1) * (a + 1)).natAbs < 2 ^ 132 := by omega
    have m4 : mulOk (x % 2147483629 + 7919 * (a + 1) + 19 * (a + 1) * (a + 1)) 48271 = true := mulOk_of 132 100 b4 (by decide) (by omega)
    generalize hy : (x % 2147483629 + 7919 * (a + 1) + 19 * (a + 1) * (a + 1)) * 48271 = y
    have m5 : mulOk 104729 (a + 1) = true := mulOk_of 100 61 (by decide) k0 (by omega)
    have c3 : 0 ≤ y % 2147483647 := Int.emod_nonneg _ (by decide)
    have c4 : y % 2147483647 < 2147483647 := Int.emod_lt_of_pos _ (by decide)
    have b5 : (y % 2147483647 + 104729 * (a + 1)).natAbs < 2 ^ 132 := by omega
    have m6 : mulOk (y % 2147483647 + 104729 * (a + 1)) 69621 = true := mulOk_of 132 100 b5 (by decide) (by omega)
    have d11 : divOk 11 = true := by decide
    refine ⟨((y % 2147483647 + 104729 * (a + 1)) * 69621 % 2147483587 / 11) % total, h.set m (drObj c p (a + 1)), [], a + 1, ?_, Int.emod_nonneg _ (by omega), Int.emod_lt_of_pos _ ht, em', ec', ep', (fun x z => by cases z), rfl, by omega, by omega, by simp, fun i him _ => by rw [List.getElem?_set_ne (fun z => him z.symm)]⟩
    have s1 : ex C nextI [some (.ref m), some (.int total), none, none, none, none] h = .nx [some (.ref m), some (.int total), none, none, none, none] h := by simp [ev, tst, evs, evo, evi, exs, ex, tsts, boxOne, boxAll, bindTg, nextI, idx_left em, eq_nil ep]
    have s2 : ex C (.asg 2 (.bin .add (.idx (.var 0) (.c (.str kAt))) (.c (.int 1)))) [some (.ref m), some (.int total), none, none, none, none] h = .nx [some (.ref m), some (.int total), some (.int (a + 1)), none, none, none] h := by simp [ev, tst, evs, evo, evi, exs, ex, tsts, boxOne, boxAll, bindTg, idx_at em]
    have s3 : ex C (.set (.var 0) (.c (.str kAt)) (.var 2)) [some (.ref m), some (.int total), some (.int (a + 1)), none, none, none] h = .nx [some (.ref m), some (.int total), some (.int (a + 1)), none, none, none] (h.set m (drObj c p (a + 1))) := by simp [ev, tst, evs, evo, evi, exs, ex, tsts, boxOne, boxAll, bindTg, set_at em]
    have s4 : ex C (.asg 3 nextC) [some (.ref m), some (.int total), some (.int (a + 1)), none, none, none] (h.set m (drObj c p (a + 1))) = .nx [some (.ref m), some (.int total), some (.int (a + 1)), some (.int x), none, none] (h.set m (drObj c p (a + 1))) := by
      simp only [ex, ecell, r_st, boxOne]
      rfl
    simp only [nextR, exs, s1, s2, s3, s4]
    simp [ev, tst, evs, evo, evi, exs, ex, tsts, boxOne, boxAll, bindTg, m1, m2, m3, m4, m5, m6, hy, d11, ht]
end
end G

/-! G25: the law's own drawing: a draw, the beginning. -/
namespace G
section
variable (C : Nat → List D → Hp → R Rv)
theorem next_ok {h : Hp} {m c p : Nat} {K total : Int} (d : Dr h m c p K) (ht : 0 < total) (hb : total < 2 ^ 200) (hK : K < 2 ^ 60) :
    ∃ (r : Int) (h' : Hp) (p' : Nat), exs C nextB [some (.ref m), some (.int total), none, none, none, none] h = .rt (.val (.int r)) h' ∧ 0 ≤ r ∧ r < total ∧ Dr h' m c p' (K + 1) ∧ (p' = p ∨ h.length ≤ p') ∧ h.length ≤ h'.length ∧ ∀ i, i < h.length → i ≠ m → i ≠ p → h'[i]? = h[i]? := by
  obtain ⟨cells, left, a, em, ec, ep, l0, ll, lc, a0, aK⟩ := d.ex
  obtain ⟨h1, p1, l1, w, q1, q2, q3, q4, q5, q6, q7, q8, q9, q10, q11⟩ := next_while C (ρ := [some (.ref m), some (.int total), none, none, none, none]) rfl d.cm left fuel h p (by simp only [fuel]; omega) em ec ep d.cp d.pm
  obtain ⟨r, h2, l2, a2, e2, r0, r1, z1, z2, z3, z4, z5, z6, z7, z8, z9⟩ := next_rest C ht hb hK a0 aK lc d.cm q8 q7 q1 q2 q3 (fun x hx => l0 x (q5 x hx))
  refine ⟨r, h2, p1, ?_, r0, r1, ⟨⟨cells, l2, a2, z1, z2, z3, z4, by omega, lc, z6, z7⟩, q7, d.cm, q8⟩, q9, by omega, fun i hi him hip => ?_⟩
  · have w' : ex C (.whl nextT nextW) [some (.ref m), some (.int total), none, none, none, none] h = .nx [some (.ref m), some (.int total), none, none, none, none] h1 := by
      simp only [ex]
      exact w
    simp only [nextB, exs, w']
    exact e2
  · have hi1 : i ≠ p1 := by
      rcases q9 with z | z
      · rw [z]; exact hip
      · omega
    rw [z9 i him hi1, q11 i hi him]
def begunB : Ss := (.cons (.ret (.dk [kCells, kLeft, kAt] (.cons (.b1 .list (.var 0)) (.cons (.lc [1] (.one 1) (.seq (.var 0)) (.cons (.cmp .ge (.var 1) (.bin .pow (.c (.int 10)) (.c (.int 18)))) .nil) (.var 1)) (.cons (.c (.int 0)) .nil))))) .nil)
theorem compL_pure {ws : List (Nat × List D)} {f : D → Hp → R (List D)} {g : D → List D} {h : Hp} (hs : same h ws = true) : ∀ ds : List D, (∀ d ∈ ds, f d h = .ok (g d) h) → compL ws f ds h = .ok (ds.flatMap g) h
  | [], _ => by simp [ev, tst, evs, evo, evi, exs, ex, tsts, boxOne, boxAll, bindTg, compL, hs]
  | d :: ds, hf => by
    have ih := compL_pure hs ds fun e he => hf e (by simp [ev, tst, evs, evo, evi, exs, ex, tsts, boxOne, boxAll, bindTg, he])
    simp [ev, tst, evs, evo, evi, exs, ex, tsts, boxOne, boxAll, bindTg, compL, hs, hf d (by simp), ih]
theorem ev_lc {own : List Nat} {tg : Tg} {it : It} {cs : Es} {elt : E} {ρ : Env} {h : Hp} : ev C (.lc own tg it cs elt) ρ h = (evi C it ρ h).bind fun p h => (compL p.2 (lcF C ρ own tg cs elt) p.1 h).bind fun ds h => when_ (decide (ds.length ≤ lim)) h (.new (.lst ds)) := by
  simp only [ev]
  rfl
theorem flat_filter (P : Int → Bool) : ∀ ns : List Int, (ns.map D.int).flatMap (fun d => match d with | .int x => if P x = true then [d] else [] | _ => []) = (ns.filter P).map D.int
  | [] => rfl
  | x :: ns => by
    rw [List.map_cons, List.flatMap_cons, flat_filter P ns, List.filter_cons]
    by_cases hp : P x = true <;> simp [ev, tst, evs, evo, evi, exs, ex, tsts, boxOne, boxAll, bindTg, hp]
theorem begun_ok {h : Hp} {ns : List Int} (hl : ns.length ≤ 63) : exs C begunB [some (.rol (ns.map .int)), none] h = .rt (.new (drObj h.length (h.length + 1) 0)) (h ++ [O.lst (ns.map .int)] ++ [O.lst ((ns.filter fun x => decide (1000000000000000000 ≤ x)).map .int)]) := by
  have fl : (ns.filter fun x => decide (1000000000000000000 ≤ x)).length ≤ 63 := Nat.le_trans (List.length_filter_le _ _) hl
  have fl2 : ((ns.filter fun x => decide (1000000000000000000 ≤ x)).map D.int).length ≤ lim := by simp only [List.length_map, lim]; omega
  have lcE : ev C (.lc [1] (.one 1) (.seq (.var 0)) (.cons (.cmp .ge (.var 1) (.bin .pow (.c (.int 10)) (.c (.int 18)))) .nil) (.var 1)) [some (.rol (ns.map .int)), none] h = .ok (.new (.lst ((ns.filter fun x => decide (1000000000000000000 ≤ x)).map .int))) h := by
    rw [ev_lc]
    simp only [evi, ev, List.getElem?_cons_zero, r_bind, itemsOf, watch, Option.map_some, r_opt]
    rw [compL_pure (g := fun d => match d with | .int x => if decide (1000000000000000000 ≤ x) = true then [d] else [] | _ => []) rfl _ fun d hd => ?_, flat_filter fun x => decide (1000000000000000000 ≤ x)]
    · simp only [r_bind, decide_eq_true fl2, r_when]
    · obtain ⟨x, _, rfl⟩ := List.mem_map.mp hd
      have pw : powOk 10 18 = true := by decide
      have e18 : (10 : Int) ^ (Int.toNat 18) = 1000000000000000000 := by decide
      by_cases hx : (1000000000000000000 : Int) ≤ x
      · have hx2 : ¬ x < 1000000000000000000 := by omega
        simp [ev, tst, evs, evo, evi, exs, ex, tsts, boxOne, boxAll, bindTg, lcF, wipeE, pw, e18, hx, hx2]
      · have hx2 : x < 1000000000000000000 := by omega
        simp [ev, tst, evs, evo, evi, exs, ex, tsts, boxOne, boxAll, bindTg, lcF, wipeE, pw, e18, hx, hx2]
  have nd : decide ([kCells, kLeft, kAt] : List (List Nat)).Nodup = true := by decide
  unfold begunB
  generalize E.lc [1] (Tg.one 1) (It.seq (E.var 0)) (Es.cons (E.cmp Cop.ge (E.var 1) (E.bin Bop.pow (E.c (D.int 10)) (E.c (D.int 18)))) Es.nil) (E.var 1) = q at lcE ⊢
  simp only [exs, ex, ev, evs, List.getElem?_cons_zero, r_bind, b1V, seqV, Option.map_some, r_opt, lcE, boxAll, boxOne]
  have k1 : decide (kCells = kLeft) = false := by decide
  have k2 : decide (kCells = kAt) = false := by decide
  have k3 : decide (kLeft = kAt) = false := by decide
  simp [ev, tst, evs, evo, evi, exs, ex, tsts, boxOne, boxAll, bindTg, drObj, List.append_assoc, k1, k2, k3]
theorem begun_dr {h : Hp} {ns : List Int} (hl : ns.length ≤ 63) : Dr (h ++ [O.lst (ns.map .int)] ++ [O.lst ((ns.filter fun x => decide (1000000000000000000 ≤ x)).map .int)] ++ [drObj h.length (h.length + 1) 0]) (h.length + 2) h.length (h.length + 1) 0 := by
  have fl : (ns.filter fun x => decide (1000000000000000000 ≤ x)).length ≤ 63 := Nat.le_trans (List.length_filter_le _ _) hl
  refine ⟨⟨ns, ns.filter fun x => decide (1000000000000000000 ≤ x), 0, ?_, ?_, ?_, fun x hx => ?_, by omega, by omega, by omega, by omega⟩, by omega, by omega, by omega⟩
  · simp
  · simp
  · simp
  · have := (List.mem_filter.mp hx).2
    simp at this
    omega
end
theorem call_loc {C : Nat → List D → Hp → R Rv} {f : Nat} {rs : List Rv} {ds : List D} {h hc : Hp} {x : D} (h1 : rs.all Rv.free = true) (h2 : boxAll [] rs = (ds, [])) (e : C f ds [] = .ok (.val x) hc) (hx : x.free = true) : callV C f rs h = .ok (.val x) h := by
  unfold callV
  rw [h1]
  simp only [h2, e]
  cases x <;> first | (simp [ev, tst, evs, evo, evi, exs, ex, tsts, boxOne, boxAll, bindTg, unbox, Rv.free, hx]; done) | (simp [ev, tst, evs, evo, evi, exs, ex, tsts, boxOne, boxAll, bindTg, D.free] at hx)
end G

/-! the defs of the program as terms -/
namespace Lib.counters
def k_MOST_DIALS : G.D := (.int 12)
def k_MOST_SIGNS : G.D := (.int 36)
def k_PERCENT : G.D := (.int 37)
abbrev f_is_whole : Nat := 71
abbrev f_is_dial : Nat := 72
abbrev f_need_counter : Nat := 73
abbrev f_is_counter : Nat := 74
abbrev f_size_in : Nat := 75
abbrev f_size : Nat := 76
abbrev f_text_in : Nat := 77
abbrev f_text_at : Nat := 78
abbrev f_is_text : Nat := 79
abbrev f_number_in : Nat := 80
abbrev f_number_of : Nat := 81
end Lib.counters
namespace Lib.runs
def k_MOST_STEP : G.D := (.int 1000000000000000000)
def k_MOST_SERIALS : G.D := (.int 1000000000000000000000000000000)
def k_MOST_COPIES : G.D := (.int 1000)
abbrev f_need_run : Nat := 275
abbrev f_common : Nat := 276
abbrev f_inverse : Nat := 277
abbrev f_number_shown : Nat := 278
abbrev f_label : Nat := 279
abbrev f_round_in : Nat := 280
abbrev f_round_of : Nat := 281
abbrev f_first_again : Nat := 282
abbrev f_serial_with : Nat := 283
abbrev f_need_text : Nat := 284
abbrev f_times : Nat := 285
abbrev f_next_label : Nat := 286
abbrev f_floors : Nat := 287
abbrev f_hits : Nat := 288
abbrev f_least_rest : Nat := 289
abbrev f_gaps : Nat := 290
end Lib.runs
namespace Lib.ladders
def k_MOST_COUNT : G.D := (.int 10000000000000000000000000000000000000000)
abbrev f_is_question : Nat := 172
abbrev f_need_question : Nat := 173
abbrev f_least_times : Nat := 174
abbrev f_is_plain : Nat := 175
abbrev f_behind : Nat := 176
abbrev f_ladder_in : Nat := 177
abbrev f_ladder : Nat := 178
abbrev f_answer_of : Nat := 179
abbrev f_answer : Nat := 180
abbrev f_is_ladder : Nat := 181
abbrev f_many_hits : Nat := 182
abbrev f_need_two : Nat := 183
abbrev f_least_serial : Nat := 184
abbrev f_first_hit : Nat := 185
abbrev f_shared : Nat := 186
abbrev f_many_shared : Nat := 187
end Lib.ladders
namespace Lib.panels
def k_MOST_EVERY : G.D := (.int 1000000)
def k_LAST_LABEL : G.D := (.int 10000000000000000000000000000000000000000)
abbrev f_is_hand : Nat := 209
abbrev f_need_panel : Nat := 210
abbrev f_hand_text : Nat := 211
abbrev f_shown : Nat := 212
abbrev f_turn_of : Nat := 213
abbrev f_comes_back : Nat := 214
abbrev f_first_with : Nat := 215
abbrev f_meet : Nat := 216
end Lib.panels
namespace Lib.sheets
def k_MOST_LINES : G.D := (.int 1000000000000000000)
def k_MOST_PLACES : G.D := (.int 100000)
def k_FOLDS : G.D := (.str [102, 111, 108, 100, 115])
def k_LANES : G.D := (.str [108, 97, 110, 101, 115])
def k_ROWS : G.D := (.str [114, 111, 119, 115])
def k_TURNS : G.D := (.str [116, 117, 114, 110, 115])
def k_WAYS : G.D := (.ktup [(.str [102, 111, 108, 100, 115]), (.str [108, 97, 110, 101, 115]), (.str [114, 111, 119, 115]), (.str [116, 117, 114, 110, 115])])
abbrev f_need_sheet : Nat := 291
abbrev f_need_way : Nat := 292
abbrev f_serial_in : Nat := 293
abbrev f_place_in : Nat := 294
abbrev f_serial_at : Nat := 295
abbrev f_need_serial : Nat := 296
abbrev f_place_of : Nat := 297
abbrev f_moved_in : Nat := 298
abbrev f_need_ways : Nat := 299
abbrev f_moves_to : Nat := 300
abbrev f_need_small : Nat := 301
abbrev f_many_staying : Nat := 302
abbrev f_ring_sizes : Nat := 303
abbrev f_rounds : Nat := 304
end Lib.sheets
namespace Lib.rolls
def k_MOST_LABELS : G.D := (.int 200)
def k_MOST_LENGTH : G.D := (.int 1000000000)
abbrev f_need_lengths : Nat := 244
abbrev f_need_room : Nat := 245
abbrev f_begins_of : Nat := 246
abbrev f_fewest_rolls : Nat := 247
abbrev f_split_in : Nat := 248
abbrev f_split : Nat := 249
abbrev f_rolls_paper : Nat := 250
abbrev f_is_split : Nat := 251
abbrev f_are_stops : Nat := 252
abbrev f_check_rolls : Nat := 253
abbrev f_least_length : Nat := 254
end Lib.rolls
namespace Lib.counters
def b_is_whole : G.Ss := (.cons (.ife (.or (.not (.isi (.var 0) .int)) (.or (.isi (.var 0) .bool) (.cmp .lt (.var 0) (.var 1)))) (.cons (.ret (.c (.bl false))) .nil) .nil) (.cons (.ret (.or (.cmp .is (.var 2) (.c .non)) (.cmp .le (.var 0) (.var 2)))) .nil))
def fn_is_whole : G.Fn := ⟨3, 3, b_is_whole⟩
def b_is_dial : G.Ss := (.cons (.ife (.or (.not (.isi (.var 0) .str)) (.not (.ch .le .le (.c (.int 2)) (.b1 .len (.var 0)) (.glb 22 Lib.counters.k_MOST_SIGNS)))) (.cons (.ret (.c (.bl false))) .nil) .nil) (.cons (.ife (.not (.b1 .all (.lc [1] (.one 1) (.seq (.var 0)) .nil (.and (.ch .le .le (.c (.str [33])) (.var 1) (.c (.str [126]))) (.cmp .ne (.b1 .ord (.var 1)) (.glb 23 Lib.counters.k_PERCENT)))))) (.cons (.ret (.c (.bl false))) .nil) .nil) (.cons (.ret (.cmp .eq (.lenS [1] (.one 1) (.seq (.var 0)) (.var 1)) (.b1 .len (.var 0)))) .nil)))
def fn_is_dial : G.Fn := ⟨1, 2, b_is_dial⟩
def b_need_counter : G.Ss := (.cons (.ife (.or (.not (.isi (.var 0) .tuple)) (.not (.ch .le .le (.c (.int 1)) (.b1 .len (.var 0)) (.glb 21 Lib.counters.k_MOST_DIALS)))) (.cons (.rse 4 (.cons (.c .non) .nil)) .nil) .nil) (.cons (.for_ (.many [1, 2]) (.enu (.var 0)) (.cons (.ife (.not (.call Lib.counters.f_is_dial (.cons (.var 2) .nil))) (.cons (.rse 4 (.cons (.var 1) .nil)) .nil) .nil) .nil)) (.cons (.ret (.var 0)) .nil)))
def fn_need_counter : G.Fn := ⟨1, 3, b_need_counter⟩
def b_is_counter : G.Ss := (.cons (.ife (.or (.not (.isi (.var 0) .tuple)) (.not (.ch .le .le (.c (.int 1)) (.b1 .len (.var 0)) (.glb 21 Lib.counters.k_MOST_DIALS)))) (.cons (.ret (.c (.bl false))) .nil) .nil) (.cons (.ret (.b1 .all (.lc [1] (.one 1) (.seq (.var 0)) .nil (.call Lib.counters.f_is_dial (.cons (.var 1) .nil))))) .nil))
def fn_is_counter : G.Fn := ⟨1, 2, b_is_counter⟩
def b_size_in : G.Ss := (.cons (.asg 1 (.c (.int 1))) (.cons (.for_ (.one 2) (.seq (.var 0)) (.cons (.aug 1 .mul (.b1 .len (.var 2))) .nil)) (.cons (.ret (.var 1)) .nil)))
def fn_size_in : G.Fn := ⟨1, 3, b_size_in⟩
def b_size : G.Ss := (.cons (.ret (.call Lib.counters.f_size_in (.cons (.call Lib.counters.f_need_counter (.cons (.var 0) .nil)) .nil))) .nil)
def fn_size : G.Fn := ⟨1, 1, b_size⟩
def b_text_in : G.Ss := (.cons (.asg 2 (.c (.str []))) (.cons (.for_ (.one 3) (.seq (.rev (.var 0))) (.cons (.asg 2 (.bin .add (.idx (.var 3) (.bin .mod (.b1 .int (.var 1)) (.b1 .len (.var 3)))) (.var 2))) (.cons (.asg 1 (.bin .fdiv (.var 1) (.b1 .len (.var 3)))) .nil))) (.cons (.ret (.var 2)) .nil)))
def fn_text_in : G.Fn := ⟨2, 4, b_text_in⟩
def b_text_at : G.Ss := (.cons (.ife (.not (.call Lib.counters.f_is_whole (.cons (.var 1) (.cons (.c (.int 0)) (.cons (.bin .sub (.call Lib.counters.f_size_in (.cons (.call Lib.counters.f_need_counter (.cons (.var 0) .nil)) .nil)) (.c (.int 1))) .nil))))) (.cons (.rse 12 (.cons (.c (.str [110, 111, 32, 110, 117, 109, 98, 101, 114, 32, 111, 102, 32, 97, 32, 116, 101, 120, 116])) .nil)) .nil) .nil) (.cons (.ret (.call Lib.counters.f_text_in (.cons (.var 0) (.cons (.var 1) .nil)))) .nil))
def fn_text_at : G.Fn := ⟨2, 2, b_text_at⟩
def b_is_text : G.Ss := (.cons (.ife (.or (.not (.isi (.var 1) .str)) (.cmp .ne (.b1 .len (.var 1)) (.b1 .len (.var 0)))) (.cons (.ret (.c (.bl false))) .nil) .nil) (.cons (.ret (.b1 .all (.lc [2, 3] (.many [2, 3]) (.zip (.var 1) (.var 0)) .nil (.cmp .in_ (.var 2) (.var 3))))) .nil))
def fn_is_text : G.Fn := ⟨2, 4, b_is_text⟩
def b_number_in : G.Ss := (.cons (.asg 2 (.c (.int 0))) (.cons (.for_ (.many [3, 4]) (.zip (.var 1) (.var 0)) (.cons (.asg 2 (.bin .add (.bin .mul (.var 2) (.b1 .len (.var 4))) (.mt .index (.var 4) (.cons (.var 3) .nil)))) .nil)) (.cons (.ret (.var 2)) .nil)))
def fn_number_in : G.Fn := ⟨2, 5, b_number_in⟩
def b_number_of : G.Ss := (.cons (.ife (.not (.call Lib.counters.f_is_text (.cons (.call Lib.counters.f_need_counter (.cons (.var 0) .nil)) (.cons (.var 1) .nil)))) (.cons (.rse 12 (.cons (.c (.str [110, 111, 32, 116, 101, 120, 116])) .nil)) .nil) .nil) (.cons (.ret (.call Lib.counters.f_number_in (.cons (.var 0) (.cons (.var 1) .nil)))) .nil))
def fn_number_of : G.Fn := ⟨2, 2, b_number_of⟩
end Lib.counters
namespace Lib.runs
def b_need_run : G.Ss := (.cons (.ife (.or (.not (.isi (.var 0) .tuple)) (.cmp .ne (.b1 .len (.var 0)) (.c (.int 5)))) (.cons (.rse 5 (.cons (.c (.str [102, 111, 114, 109])) .nil)) .nil) .nil) (.cons (.ife (.not (.call Lib.counters.f_is_counter (.cons (.idx (.var 0) (.c (.int 0))) .nil))) (.cons (.rse 5 (.cons (.c (.str [99, 111, 117, 110, 116, 101, 114])) .nil)) .nil) .nil) (.cons (.ife (.not (.call Lib.counters.f_is_whole (.cons (.idx (.var 0) (.c (.int 1))) (.cons (.c (.int 0)) (.cons (.bin .sub (.call Lib.counters.f_size_in (.cons (.idx (.var 0) (.c (.int 0))) .nil)) (.c (.int 1))) .nil))))) (.cons (.rse 5 (.cons (.c (.str [98, 101, 103, 105, 110])) .nil)) .nil) .nil) (.cons (.ife (.not (.call Lib.counters.f_is_whole (.cons (.idx (.var 0) (.c (.int 2))) (.cons (.neg (.glb 67 Lib.runs.k_MOST_STEP)) (.cons (.glb 67 Lib.runs.k_MOST_STEP) .nil))))) (.cons (.rse 5 (.cons (.c (.str [115, 116, 101, 112])) .nil)) .nil) .nil) (.cons (.ife (.not (.call Lib.counters.f_is_whole (.cons (.idx (.var 0) (.c (.int 3))) (.cons (.c (.int 1)) (.cons (.glb 68 Lib.runs.k_MOST_SERIALS) .nil))))) (.cons (.rse 5 (.cons (.c (.str [109, 97, 110, 121])) .nil)) .nil) .nil) (.cons (.ife (.not (.call Lib.counters.f_is_whole (.cons (.idx (.var 0) (.c (.int 4))) (.cons (.c (.int 1)) (.cons (.glb 69 Lib.runs.k_MOST_COPIES) .nil))))) (.cons (.rse 5 (.cons (.c (.str [99, 111, 112, 105, 101, 115])) .nil)) .nil) .nil) (.cons (.ret (.var 0)) .nil)))))))
def fn_need_run : G.Fn := ⟨1, 1, b_need_run⟩
def b_common : G.Ss := (.cons (.asgT [0, 1] (.tup (.cons (.b1 .abs (.var 0)) (.cons (.b1 .abs (.var 1)) .nil)))) (.cons (.whl (.cmp .ne (.var 1) (.c (.int 0))) (.cons (.asgT [0, 1] (.tup (.cons (.var 1) (.cons (.bin .mod (.b1 .int (.var 0)) (.var 1)) .nil)))) .nil)) (.cons (.ret (.var 0)) .nil)))
def fn_common : G.Fn := ⟨2, 2, b_common⟩
def b_inverse : G.Ss := (.cons (.asgT [2, 3, 4, 5] (.tup (.cons (.bin .mod (.b1 .int (.var 0)) (.var 1)) (.cons (.var 1) (.cons (.c (.int 1)) (.cons (.c (.int 0)) .nil)))))) (.cons (.whl (.cmp .ne (.var 3) (.c (.int 0))) (.cons (.asg 6 (.bin .fdiv (.var 2) (.var 3))) (.cons (.asgT [2, 3] (.tup (.cons (.var 3) (.cons (.bin .sub (.var 2) (.bin .mul (.var 6) (.var 3))) .nil)))) (.cons (.asgT [4, 5] (.tup (.cons (.var 5) (.cons (.bin .sub (.var 4) (.bin .mul (.var 6) (.var 5))) .nil)))) .nil)))) (.cons (.ret (.bin .mod (.b1 .int (.var 4)) (.var 1))) .nil)))
def fn_inverse : G.Fn := ⟨2, 7, b_inverse⟩
def b_number_shown : G.Ss := (.cons (.ret (.bin .mod (.b1 .int (.bin .add (.var 1) (.bin .mul (.var 3) (.var 2)))) (.call Lib.counters.f_size_in (.cons (.var 0) .nil)))) .nil)
def fn_number_shown : G.Fn := ⟨4, 4, b_number_shown⟩
def b_label : G.Ss := (.cons (.asgT [2, 3, 4, 5, 6] (.call Lib.runs.f_need_run (.cons (.var 0) .nil))) (.cons (.ife (.not (.call Lib.counters.f_is_whole (.cons (.var 1) (.cons (.c (.int 0)) (.cons (.bin .sub (.bin .mul (.var 5) (.var 6)) (.c (.int 1))) .nil))))) (.cons (.rse 12 (.cons (.c (.str [110, 111, 32, 108, 97, 98, 101, 108])) .nil)) .nil) .nil) (.cons (.ret (.call Lib.counters.f_text_in (.cons (.var 2) (.cons (.call Lib.runs.f_number_shown (.cons (.var 2) (.cons (.var 3) (.cons (.var 4) (.cons (.bin .fdiv (.var 1) (.var 6)) .nil))))) .nil)))) .nil)))
def fn_label : G.Fn := ⟨2, 7, b_label⟩
def b_round_in : G.Ss := (.cons (.ret (.bin .fdiv (.call Lib.counters.f_size_in (.cons (.var 0) .nil)) (.call Lib.runs.f_common (.cons (.call Lib.counters.f_size_in (.cons (.var 0) .nil)) (.cons (.var 1) .nil))))) .nil)
def fn_round_in : G.Fn := ⟨2, 2, b_round_in⟩
def b_round_of : G.Ss := (.cons (.ex (.call Lib.runs.f_need_run (.cons (.var 0) .nil))) (.cons (.ret (.call Lib.runs.f_round_in (.cons (.idx (.var 0) (.c (.int 0))) (.cons (.idx (.var 0) (.c (.int 2))) .nil)))) .nil))
def fn_round_of : G.Fn := ⟨1, 1, b_round_of⟩
def b_first_again : G.Ss := (.cons (.ex (.call Lib.runs.f_need_run (.cons (.var 0) .nil))) (.cons (.asg 1 (.call Lib.runs.f_round_in (.cons (.idx (.var 0) (.c (.int 0))) (.cons (.idx (.var 0) (.c (.int 2))) .nil)))) (.cons (.ret (.ife (.cmp .lt (.var 1) (.idx (.var 0) (.c (.int 3)))) (.var 1) (.c .non))) .nil)))
def fn_first_again : G.Fn := ⟨1, 2, b_first_again⟩
def b_serial_with : G.Ss := (.cons (.asg 4 (.call Lib.counters.f_size_in (.cons (.var 0) .nil))) (.cons (.asg 5 (.call Lib.runs.f_common (.cons (.var 4) (.cons (.var 2) .nil)))) (.cons (.asg 6 (.bin .mod (.b1 .int (.bin .sub (.var 3) (.var 1))) (.var 4))) (.cons (.ife (.cmp .ne (.bin .mod (.b1 .int (.var 6)) (.var 5)) (.c (.int 0))) (.cons (.ret (.c .non)) .nil) .nil) (.cons (.ret (.bin .mod (.b1 .int (.bin .mul (.bin .fdiv (.var 6) (.var 5)) (.call Lib.runs.f_inverse (.cons (.bin .fdiv (.var 2) (.var 5)) (.cons (.bin .fdiv (.var 4) (.var 5)) .nil))))) (.bin .fdiv (.var 4) (.var 5)))) .nil)))))
def fn_serial_with : G.Fn := ⟨4, 7, b_serial_with⟩
def b_need_text : G.Ss := (.cons (.ife (.not (.call Lib.counters.f_is_text (.cons (.var 0) (.cons (.var 1) .nil)))) (.cons (.rse 12 (.cons (.c (.str [110, 111, 32, 116, 101, 120, 116])) .nil)) .nil) .nil) .nil)
def fn_need_text : G.Fn := ⟨2, 2, b_need_text⟩
def b_times : G.Ss := (.cons (.asgT [3, 4, 5, 6, 7] (.call Lib.runs.f_need_run (.cons (.var 0) .nil))) (.cons (.ex (.call Lib.runs.f_need_text (.cons (.var 3) (.cons (.var 1) .nil)))) (.cons (.asg 2 (.call Lib.runs.f_serial_with (.cons (.var 3) (.cons (.var 4) (.cons (.var 5) (.cons (.call Lib.counters.f_number_in (.cons (.var 3) (.cons (.var 1) .nil))) .nil)))))) (.cons (.ife (.or (.cmp .is (.var 2) (.c .non)) (.cmp .ge (.var 2) (.var 6))) (.cons (.ret (.c (.int 0))) .nil) .nil) (.cons (.ret (.bin .mul (.bin .add (.bin .fdiv (.bin .sub (.bin .sub (.var 6) (.c (.int 1))) (.var 2)) (.call Lib.runs.f_round_in (.cons (.var 3) (.cons (.var 5) .nil)))) (.c (.int 1))) (.var 7))) .nil)))))
def fn_times : G.Fn := ⟨2, 8, b_times⟩
def b_next_label : G.Ss := (.cons (.asgT [6, 7, 8, 9, 10] (.call Lib.runs.f_need_run (.cons (.var 0) .nil))) (.cons (.ex (.call Lib.runs.f_need_text (.cons (.var 6) (.cons (.var 1) .nil)))) (.cons (.ife (.not (.call Lib.counters.f_is_whole (.cons (.var 2) (.cons (.c (.int 0)) (.cons (.c .non) .nil))))) (.cons (.rse 12 (.cons (.c (.str [110, 111, 32, 110, 117, 109, 98, 101, 114])) .nil)) .nil) .nil) (.cons (.asgT [11, 12] (.tup (.cons (.call Lib.runs.f_serial_with (.cons (.var 6) (.cons (.var 7) (.cons (.var 8) (.cons (.call Lib.counters.f_number_in (.cons (.var 6) (.cons (.var 1) .nil))) .nil))))) (.cons (.call Lib.runs.f_round_in (.cons (.var 6) (.cons (.var 8) .nil))) .nil)))) (.cons (.ife (.cmp .is (.var 11) (.c .non)) (.cons (.ret (.c .non)) .nil) .nil) (.cons (.asg 3 (.bin .fdiv (.var 2) (.var 10))) (.cons (.asg 4 (.ife (.cmp .le (.var 3) (.var 11)) (.var 11) (.bin .add (.var 11) (.bin .mul (.bin .fdiv (.bin .sub (.bin .add (.bin .sub (.var 3) (.var 11)) (.var 12)) (.c (.int 1))) (.var 12)) (.var 12))))) (.cons (.asg 5 (.b2 .max (.var 2) (.bin .mul (.var 4) (.var 10)))) (.cons (.ret (.ife (.cmp .lt (.var 5) (.bin .mul (.var 9) (.var 10))) (.var 5) (.c .non))) .nil)))))))))
def fn_next_label : G.Fn := ⟨3, 13, b_next_label⟩
def b_floors : G.Ss := (.cons (.asg 4 (.c (.int 0))) (.cons (.whl (.cmp .gt (.var 3) (.c (.int 0))) (.cons (.aug 4 .add (.bin .add (.bin .mul (.bin .fdiv (.bin .mul (.var 3) (.bin .sub (.var 3) (.c (.int 1)))) (.c (.int 2))) (.bin .fdiv (.var 0) (.var 2))) (.bin .mul (.var 3) (.bin .fdiv (.var 1) (.var 2))))) (.cons (.asgT [0, 1] (.tup (.cons (.bin .mod (.b1 .int (.var 0)) (.var 2)) (.cons (.bin .mod (.b1 .int (.var 1)) (.var 2)) .nil)))) (.cons (.asg 5 (.bin .add (.bin .mul (.var 0) (.var 3)) (.var 1))) (.cons (.asgT [3, 1, 0, 2] (.tup (.cons (.bin .fdiv (.var 5) (.var 2)) (.cons (.bin .mod (.b1 .int (.var 5)) (.var 2)) (.cons (.var 2) (.cons (.var 0) .nil)))))) .nil))))) (.cons (.ret (.var 4)) .nil)))
def fn_floors : G.Fn := ⟨4, 6, b_floors⟩
def b_hits : G.Ss := (.cons (.ret (.bin .sub (.bin .add (.var 4) (.call Lib.runs.f_floors (.cons (.var 0) (.cons (.var 1) (.cons (.var 2) (.cons (.var 4) .nil)))))) (.call Lib.runs.f_floors (.cons (.var 0) (.cons (.bin .sub (.bin .sub (.bin .add (.var 1) (.var 2)) (.var 3)) (.c (.int 1))) (.cons (.var 2) (.cons (.var 4) .nil))))))) .nil)
def fn_hits : G.Fn := ⟨5, 5, b_hits⟩
def b_least_rest : G.Ss := (.cons (.asgT [4, 5] (.tup (.cons (.c (.int 0)) (.cons (.bin .sub (.var 1) (.c (.int 1))) .nil)))) (.cons (.whl (.cmp .gt (.bin .sub (.var 5) (.var 4)) (.c (.int 1))) (.cons (.asg 6 (.bin .fdiv (.bin .add (.var 4) (.var 5)) (.c (.int 2)))) (.cons (.ife (.cmp .gt (.call Lib.runs.f_hits (.cons (.var 0) (.cons (.var 0) (.cons (.var 1) (.cons (.var 6) (.cons (.bin .sub (.var 2) (.c (.int 1))) .nil)))))) (.c (.int 0))) (.cons (.asg 5 (.var 6)) .nil) (.cons (.asg 4 (.var 6)) .nil)) .nil))) (.cons (.asg 3 (.call Lib.runs.f_common (.cons (.var 0) (.cons (.var 1) .nil)))) (.cons (.ret (.tup (.cons (.var 5) (.cons (.bin .mod (.b1 .int (.bin .mul (.bin .fdiv (.var 5) (.var 3)) (.call Lib.runs.f_inverse (.cons (.bin .fdiv (.var 0) (.var 3)) (.cons (.bin .fdiv (.var 1) (.var 3)) .nil))))) (.bin .fdiv (.var 1) (.var 3))) .nil)))) .nil))))
def fn_least_rest : G.Fn := ⟨3, 7, b_least_rest⟩
def b_gaps : G.Ss := (.cons (.asgT [2, 3, 4, 5, 6] (.call Lib.runs.f_need_run (.cons (.var 0) .nil))) (.cons (.asgT [7, 5] (.tup (.cons (.call Lib.counters.f_size_in (.cons (.var 2) .nil)) (.cons (.b2 .min (.var 5) (.call Lib.runs.f_round_in (.cons (.var 2) (.cons (.var 4) .nil)))) .nil)))) (.cons (.ife (.cmp .eq (.var 5) (.c (.int 1))) (.cons (.ret (.tup (.cons (.tup (.cons (.var 7) (.cons (.c (.int 1)) .nil))) .nil))) .nil) .nil) (.cons (.asgT [8, 9] (.call Lib.runs.f_least_rest (.cons (.bin .mod (.b1 .int (.var 4)) (.var 7)) (.cons (.var 7) (.cons (.var 5) .nil))))) (.cons (.asgT [10, 11] (.call Lib.runs.f_least_rest (.cons (.bin .mod (.b1 .int (.bin .sub (.c (.int 0)) (.var 4))) (.var 7)) (.cons (.var 7) (.cons (.var 5) .nil))))) (.cons (.asg 1 .dk0) (.cons (.for_ (.many [12, 13]) (.seq (.tup (.cons (.tup (.cons (.var 8) (.cons (.bin .sub (.var 5) (.var 9)) .nil))) (.cons (.tup (.cons (.var 10) (.cons (.bin .sub (.var 5) (.var 11)) .nil))) (.cons (.tup (.cons (.bin .add (.var 8) (.var 10)) (.cons (.bin .sub (.bin .add (.var 9) (.var 11)) (.var 5)) .nil))) .nil))))) (.cons (.ife (.cmp .gt (.var 13) (.c (.int 0))) (.cons (.set (.var 1) (.var 12) (.bin .add (.mt .get2 (.var 1) (.cons (.var 12) (.cons (.c (.int 0)) .nil))) (.var 13))) .nil) .nil) .nil)) (.cons (.ret (.b1 .tuple (.b1 .sorted (.b1 .list .opq)))) .nil))))))))
def fn_gaps : G.Fn := ⟨1, 14, b_gaps⟩
end Lib.runs
namespace Lib.ladders
def b_is_question : G.Ss := (.cons (.ife (.or (.not (.isi (.var 0) .tuple)) (.or (.cmp .ne (.b1 .len (.var 0)) (.c (.int 4))) (.not (.call Lib.counters.f_is_whole (.cons (.idx (.var 0) (.c (.int 1))) (.cons (.c (.int 1)) (.cons (.c .non) .nil))))))) (.cons (.ret (.c (.bl false))) .nil) .nil) (.cons (.ife (.or (.not (.call Lib.counters.f_is_whole (.cons (.idx (.var 0) (.c (.int 0))) (.cons (.c (.int 0)) (.cons (.bin .sub (.idx (.var 0) (.c (.int 1))) (.c (.int 1))) .nil))))) (.not (.call Lib.counters.f_is_whole (.cons (.idx (.var 0) (.c (.int 2))) (.cons (.c (.int 0)) (.cons (.bin .sub (.idx (.var 0) (.c (.int 1))) (.c (.int 1))) .nil)))))) (.cons (.ret (.c (.bl false))) .nil) .nil) (.cons (.ret (.call Lib.counters.f_is_whole (.cons (.idx (.var 0) (.c (.int 3))) (.cons (.idx (.var 0) (.c (.int 2))) (.cons (.bin .sub (.idx (.var 0) (.c (.int 1))) (.c (.int 1))) .nil))))) .nil)))
def fn_is_question : G.Fn := ⟨1, 1, b_is_question⟩
def b_need_question : G.Ss := (.cons (.ife (.not (.call Lib.ladders.f_is_question (.cons (.var 0) .nil))) (.cons (.rse 12 (.cons (.c (.str [110, 111, 32, 113, 117, 101, 115, 116, 105, 111, 110])) .nil)) .nil) .nil) (.cons (.ret (.var 0)) .nil))
def fn_need_question : G.Fn := ⟨1, 1, b_need_question⟩
def b_least_times : G.Ss := (.cons (.ret (.bin .fdiv (.bin .sub (.bin .add (.var 1) (.var 0)) (.c (.int 1))) (.var 0))) .nil)
def fn_least_times : G.Fn := ⟨2, 2, b_least_times⟩
def b_is_plain : G.Ss := (.cons (.asgT [1, 2, 3, 4] (.var 0)) (.cons (.ret (.or (.cmp .eq (.var 3) (.c (.int 0))) (.or (.cmp .eq (.var 1) (.c (.int 0))) (.cmp .le (.bin .mul (.call Lib.ladders.f_least_times (.cons (.var 1) (.cons (.var 3) .nil))) (.var 1)) (.var 4))))) .nil))
def fn_is_plain : G.Fn := ⟨1, 5, b_is_plain⟩
def b_behind : G.Ss := (.cons (.asgT [1, 2, 3, 4] (.var 0)) (.cons (.ret (.tup (.cons (.bin .mod (.b1 .int (.var 2)) (.var 1)) (.cons (.var 1) (.cons (.bin .mod (.b1 .int (.bin .sub (.c (.int 0)) (.var 4))) (.var 1)) (.cons (.bin .mod (.b1 .int (.bin .sub (.c (.int 0)) (.var 3))) (.var 1)) .nil)))))) .nil))
def fn_behind : G.Fn := ⟨1, 5, b_behind⟩
def b_ladder_in : G.Ss := (.cons (.asg 1 (.lst (.cons (.var 0) .nil))) (.cons (.whl (.not (.call Lib.ladders.f_is_plain (.cons (.idx (.var 1) (.neg (.c (.int 1)))) .nil))) (.cons (.ex (.mt .append (.var 1) (.cons (.call Lib.ladders.f_behind (.cons (.idx (.var 1) (.neg (.c (.int 1)))) .nil)) .nil))) .nil)) (.cons (.ret (.var 1)) .nil)))
def fn_ladder_in : G.Fn := ⟨1, 2, b_ladder_in⟩
def b_ladder : G.Ss := (.cons (.ret (.b1 .tuple (.call Lib.ladders.f_ladder_in (.cons (.call Lib.ladders.f_need_question (.cons (.var 0) .nil)) .nil)))) .nil)
def fn_ladder : G.Fn := ⟨1, 1, b_ladder⟩
def b_answer_of : G.Ss := (.cons (.asgT [2, 3, 4, 5] (.idx (.var 0) (.neg (.c (.int 1))))) (.cons (.ife (.and (.cmp .gt (.var 4) (.c (.int 0))) (.cmp .eq (.var 2) (.c (.int 0)))) (.cons (.ret (.c .non)) .nil) .nil) (.cons (.asg 1 (.ife (.cmp .gt (.var 4) (.c (.int 0))) (.call Lib.ladders.f_least_times (.cons (.var 2) (.cons (.var 4) .nil))) (.c (.int 0)))) (.cons (.for_ (.many [2, 3, 4, 5]) (.seq (.rev2 (.var 0))) (.cons (.asg 1 (.call Lib.ladders.f_least_times (.cons (.var 2) (.cons (.bin .add (.var 4) (.bin .mul (.var 3) (.var 1))) .nil)))) .nil)) (.cons (.ret (.var 1)) .nil)))))
def fn_answer_of : G.Fn := ⟨1, 6, b_answer_of⟩
def b_answer : G.Ss := (.cons (.ret (.call Lib.ladders.f_answer_of (.cons (.call Lib.ladders.f_ladder_in (.cons (.call Lib.ladders.f_need_question (.cons (.var 0) .nil)) .nil)) .nil))) .nil)
def fn_answer : G.Fn := ⟨1, 1, b_answer⟩
def b_is_ladder : G.Ss := (.cons (.ife (.or (.not (.isi (.var 0) .tuple)) (.or (.cmp .eq (.var 0) (.tup .nil)) (.not (.call Lib.ladders.f_is_question (.cons (.idx (.var 0) (.c (.int 0))) .nil))))) (.cons (.ret (.c (.bl false))) .nil) .nil) (.cons (.ret (.cmp .eq (.b1 .repr (.var 0)) (.b1 .repr (.b1 .tuple (.call Lib.ladders.f_ladder_in (.cons (.idx (.var 0) (.c (.int 0))) .nil)))))) .nil))
def fn_is_ladder : G.Fn := ⟨1, 1, b_is_ladder⟩
def b_many_hits : G.Ss := (.cons (.for_ (.many [5, 6, 7]) (.seq (.tup (.cons (.tup (.cons (.var 0) (.cons (.c (.int 0)) (.cons (.c .non) .nil)))) (.cons (.tup (.cons (.var 1) (.cons (.c (.int 0)) (.cons (.c .non) .nil)))) (.cons (.tup (.cons (.var 2) (.cons (.c (.int 1)) (.cons (.glb 43 Lib.ladders.k_MOST_COUNT) .nil)))) (.cons (.tup (.cons (.var 3) (.cons (.c (.int 0)) (.cons (.c .non) .nil)))) (.cons (.tup (.cons (.var 4) (.cons (.c (.int 0)) (.cons (.glb 43 Lib.ladders.k_MOST_COUNT) .nil)))) .nil))))))) (.cons (.ife (.not (.call Lib.counters.f_is_whole (.cons (.var 5) (.cons (.var 6) (.cons (.var 7) .nil))))) (.cons (.rse 12 (.cons (.c (.str [110, 111, 32, 110, 117, 109, 98, 101, 114, 32, 111, 102, 32, 116, 104, 105, 115, 32, 107, 105, 110, 100])) .nil)) .nil) .nil) .nil)) (.cons (.ife (.not (.b1 .all (.lc [8] (.one 8) (.seq (.tup (.cons (.var 0) (.cons (.var 1) (.cons (.var 3) .nil))))) .nil (.cmp .lt (.var 8) (.var 2))))) (.cons (.rse 12 (.cons (.c (.str [110, 111, 116, 32, 108, 101, 115, 115, 32, 116, 104, 97, 110, 32, 109])) .nil)) .nil) .nil) (.cons (.ret (.call Lib.runs.f_hits (.cons (.var 0) (.cons (.var 1) (.cons (.var 2) (.cons (.var 3) (.cons (.var 4) .nil))))))) .nil)))
def fn_many_hits : G.Fn := ⟨5, 9, b_many_hits⟩
def b_need_two : G.Ss := (.cons (.ex (.call Lib.runs.f_need_run (.cons (.var 0) .nil))) (.cons (.ife (.cmp .ne (.idx (.var 0) (.c (.int 0))) (.idx (.call Lib.runs.f_need_run (.cons (.var 1) .nil)) (.c (.int 0)))) (.cons (.rse 12 (.cons (.c (.str [117, 110, 108, 105, 107, 101, 32, 99, 111, 117, 110, 116, 101, 114, 115])) .nil)) .nil) .nil) .nil))
def fn_need_two : G.Fn := ⟨2, 2, b_need_two⟩
def b_least_serial : G.Ss := (.cons (.asg 3 (.bin .mod (.b1 .int (.idx (.var 0) (.c (.int 2)))) (.var 2))) (.cons (.asgT [4, 5] (.tup (.cons (.bin .mod (.b1 .int (.bin .sub (.var 1) (.idx (.var 0) (.c (.int 1))))) (.var 2)) (.cons (.call Lib.runs.f_common (.cons (.var 2) (.cons (.var 3) .nil))) .nil)))) (.cons (.ife (.cmp .ne (.bin .mod (.b1 .int (.var 4)) (.var 5)) (.c (.int 0))) (.cons (.ret (.c .non)) .nil) .nil) (.cons (.ret (.bin .mod (.b1 .int (.bin .mul (.bin .fdiv (.var 4) (.var 5)) (.call Lib.runs.f_inverse (.cons (.bin .fdiv (.var 3) (.var 5)) (.cons (.bin .fdiv (.var 2) (.var 5)) .nil))))) (.bin .fdiv (.var 2) (.var 5)))) .nil))))
def fn_least_serial : G.Fn := ⟨3, 6, b_least_serial⟩
def b_first_hit : G.Ss := (.cons (.ife (.cmp .le (.var 1) (.var 3)) (.cons (.ret (.c (.int 0))) .nil) .nil) (.cons (.ret (.call Lib.ladders.f_answer_of (.cons (.call Lib.ladders.f_ladder_in (.cons (.tup (.cons (.var 0) (.cons (.var 2) (.cons (.bin .sub (.var 2) (.var 1)) (.cons (.bin .add (.bin .sub (.var 2) (.var 1)) (.var 3)) .nil))))) .nil)) .nil))) .nil))
def fn_first_hit : G.Fn := ⟨4, 4, b_first_hit⟩
def b_shared : G.Ss := (.cons (.ex (.call Lib.ladders.f_need_two (.cons (.var 0) (.cons (.var 1) .nil)))) (.cons (.asg 2 .opq) (.cons (.asg 3 (.ife (.cmp .isn .opq (.c .non)) (.call Lib.ladders.f_first_hit (.cons .opq (.cons .opq (.cons .opq (.cons .opq .nil))))) (.c .non))) (.cons (.ife (.or (.cmp .is (.var 3) (.c .non)) (.cmp .ge (.bin .add .opq (.bin .mul .opq (.var 3))) (.idx (.var 0) (.c (.int 3))))) (.cons (.ret (.c .non)) .nil) .nil) (.cons (.asg 4 (.bin .add .opq (.bin .mul .opq (.var 3)))) (.cons (.ret (.tup (.cons (.var 4) (.cons (.call Lib.runs.f_serial_with (.cons (.idx (.var 1) (.c (.int 0))) (.cons (.idx (.var 1) (.c (.int 1))) (.cons (.idx (.var 1) (.c (.int 2))) (.cons (.bin .mod (.b1 .int (.bin .add (.idx (.var 0) (.c (.int 1))) (.bin .mul (.var 4) (.idx (.var 0) (.c (.int 2)))))) (.call Lib.counters.f_size_in (.cons (.idx (.var 0) (.c (.int 0))) .nil))) .nil))))) .nil)))) .nil))))))
def fn_shared : G.Fn := ⟨2, 5, b_shared⟩
def b_many_shared : G.Ss := (.cons (.ex (.call Lib.ladders.f_need_two (.cons (.var 0) (.cons (.var 1) .nil)))) (.cons (.asg 2 .opq) (.cons (.ife (.or (.cmp .is .opq (.c .non)) (.cmp .ge .opq (.idx (.var 0) (.c (.int 3))))) (.cons (.ret (.c (.int 0))) .nil) .nil) (.cons (.ret (.call Lib.runs.f_hits (.cons .opq (.cons .opq (.cons .opq (.cons .opq (.cons (.bin .add (.bin .fdiv (.bin .sub (.bin .sub (.idx (.var 0) (.c (.int 3))) (.c (.int 1))) .opq) .opq) (.c (.int 1))) .nil))))))) .nil))))
def fn_many_shared : G.Fn := ⟨2, 3, b_many_shared⟩
end Lib.ladders
namespace Lib.panels
def b_is_hand : G.Ss := (.cons (.ife (.or (.not (.isi (.var 0) .tuple)) (.or (.cmp .ne (.b1 .len (.var 0)) (.c (.int 4))) (.not (.call Lib.counters.f_is_counter (.cons (.idx (.var 0) (.c (.int 0))) .nil))))) (.cons (.ret (.c (.bl false))) .nil) .nil) (.cons (.ife (.or (.not (.call Lib.counters.f_is_whole (.cons (.idx (.var 0) (.c (.int 1))) (.cons (.c (.int 0)) (.cons (.bin .sub (.call Lib.counters.f_size_in (.cons (.idx (.var 0) (.c (.int 0))) .nil)) (.c (.int 1))) .nil))))) (.not (.call Lib.counters.f_is_whole (.cons (.idx (.var 0) (.c (.int 2))) (.cons (.neg (.glb 67 Lib.runs.k_MOST_STEP)) (.cons (.glb 67 Lib.runs.k_MOST_STEP) .nil)))))) (.cons (.ret (.c (.bl false))) .nil) .nil) (.cons (.ret (.call Lib.counters.f_is_whole (.cons (.idx (.var 0) (.c (.int 3))) (.cons (.c (.int 1)) (.cons (.glb 48 Lib.panels.k_MOST_EVERY) .nil))))) .nil)))
def fn_is_hand : G.Fn := ⟨1, 1, b_is_hand⟩
def b_need_panel : G.Ss := (.cons (.ife (.or (.not (.isi (.var 0) .tuple)) (.or (.cmp .ne (.b1 .len (.var 0)) (.c (.int 2))) (.not (.b1 .all (.lc [1] (.one 1) (.seq (.var 0)) .nil (.call Lib.panels.f_is_hand (.cons (.var 1) .nil))))))) (.cons (.rse 12 (.cons (.c (.str [110, 111, 32, 112, 97, 110, 101, 108])) .nil)) .nil) .nil) (.cons (.ret (.var 0)) .nil))
def fn_need_panel : G.Fn := ⟨1, 2, b_need_panel⟩
def b_hand_text : G.Ss := (.cons (.ret (.call Lib.counters.f_text_in (.cons (.idx (.var 0) (.c (.int 0))) (.cons (.call Lib.runs.f_number_shown (.cons (.idx (.var 0) (.c (.int 0))) (.cons (.idx (.var 0) (.c (.int 1))) (.cons (.idx (.var 0) (.c (.int 2))) (.cons (.bin .fdiv (.var 1) (.idx (.var 0) (.c (.int 3)))) .nil))))) .nil)))) .nil)
def fn_hand_text : G.Fn := ⟨2, 2, b_hand_text⟩
def b_shown : G.Ss := (.cons (.ex (.call Lib.panels.f_need_panel (.cons (.var 0) .nil))) (.cons (.ife (.not (.call Lib.counters.f_is_whole (.cons (.var 1) (.cons (.c (.int 0)) (.cons (.glb 49 Lib.panels.k_LAST_LABEL) .nil))))) (.cons (.rse 12 (.cons (.c (.str [110, 111, 32, 108, 97, 98, 101, 108])) .nil)) .nil) .nil) (.cons (.ret (.tup (.cons (.call Lib.panels.f_hand_text (.cons (.idx (.var 0) (.c (.int 0))) (.cons (.var 1) .nil))) (.cons (.call Lib.panels.f_hand_text (.cons (.idx (.var 0) (.c (.int 1))) (.cons (.var 1) .nil))) .nil)))) .nil)))
def fn_shown : G.Fn := ⟨2, 2, b_shown⟩
def b_turn_of : G.Ss := (.cons (.ret (.bin .mul (.idx (.var 0) (.c (.int 3))) (.call Lib.runs.f_round_in (.cons (.idx (.var 0) (.c (.int 0))) (.cons (.idx (.var 0) (.c (.int 2))) .nil))))) .nil)
def fn_turn_of : G.Fn := ⟨1, 1, b_turn_of⟩
def b_comes_back : G.Ss := (.cons (.asgT [1, 2] (.tup (.cons (.call Lib.panels.f_turn_of (.cons (.idx (.call Lib.panels.f_need_panel (.cons (.var 0) .nil)) (.c (.int 0))) .nil)) (.cons (.call Lib.panels.f_turn_of (.cons (.idx (.var 0) (.c (.int 1))) .nil)) .nil)))) (.cons (.ret (.bin .mul (.bin .fdiv (.var 1) (.call Lib.runs.f_common (.cons (.var 1) (.cons (.var 2) .nil)))) (.var 2))) .nil))
def fn_comes_back : G.Fn := ⟨1, 3, b_comes_back⟩
def b_first_with : G.Ss := (.cons (.asg 2 (.call Lib.runs.f_serial_with (.cons (.idx (.var 0) (.c (.int 0))) (.cons (.idx (.var 0) (.c (.int 1))) (.cons (.idx (.var 0) (.c (.int 2))) (.cons (.call Lib.counters.f_number_in (.cons (.idx (.var 0) (.c (.int 0))) (.cons (.var 1) .nil))) .nil)))))) (.cons (.ret (.ife (.cmp .is (.var 2) (.c .non)) (.c .non) (.bin .mul (.var 2) (.idx (.var 0) (.c (.int 3)))))) .nil))
def fn_first_with : G.Fn := ⟨2, 3, b_first_with⟩
def b_meet : G.Ss := (.cons (.asgT [7, 8] (.call Lib.panels.f_need_panel (.cons (.var 0) .nil))) (.cons (.ife (.or (.not (.call Lib.counters.f_is_text (.cons (.idx (.var 7) (.c (.int 0))) (.cons (.var 1) .nil)))) (.not (.call Lib.counters.f_is_text (.cons (.idx (.var 8) (.c (.int 0))) (.cons (.var 2) .nil))))) (.cons (.rse 12 (.cons (.c (.str [110, 111, 32, 116, 101, 120, 116])) .nil)) .nil) .nil) (.cons (.asgT [9, 10] (.tup (.cons (.call Lib.panels.f_first_with (.cons (.var 7) (.cons (.var 1) .nil))) (.cons (.call Lib.panels.f_first_with (.cons (.var 8) (.cons (.var 2) .nil))) .nil)))) (.cons (.ife (.or (.cmp .is (.var 9) (.c .non)) (.cmp .is (.var 10) (.c .non))) (.cons (.ret (.c .non)) .nil) .nil) (.cons (.asgT [11, 12] (.tup (.cons (.call Lib.panels.f_turn_of (.cons (.var 7) .nil)) (.cons (.call Lib.panels.f_turn_of (.cons (.var 8) .nil)) .nil)))) (.cons (.asg 3 (.bin .mod (.b1 .int (.bin .sub (.bin .add (.bin .sub (.var 9) (.var 10)) (.idx (.var 7) (.c (.int 3)))) (.c (.int 1)))) (.var 12))) (.cons (.asg 4 (.call Lib.ladders.f_first_hit (.cons (.bin .mod (.b1 .int (.var 11)) (.var 12)) (.cons (.var 3) (.cons (.var 12) (.cons (.bin .sub (.b2 .min (.var 12) (.bin .sub (.bin .add (.idx (.var 7) (.c (.int 3))) (.idx (.var 8) (.c (.int 3)))) (.c (.int 1)))) (.c (.int 1))) .nil)))))) (.cons (.ife (.cmp .is (.var 4) (.c .non)) (.cons (.ret (.c .non)) .nil) .nil) (.cons (.asg 5 (.bin .add (.var 9) (.bin .mul (.var 4) (.var 11)))) (.cons (.asg 6 (.bin .mod (.b1 .int (.bin .sub (.var 5) (.var 10))) (.var 12))) (.cons (.ret (.ife (.cmp .lt (.var 6) (.idx (.var 8) (.c (.int 3)))) (.var 5) (.bin .sub (.bin .add (.var 5) (.var 12)) (.var 6)))) .nil)))))))))))
def fn_meet : G.Fn := ⟨3, 13, b_meet⟩
end Lib.panels
namespace Lib.sheets
def b_need_sheet : G.Ss := (.cons (.ife (.or (.not (.isi (.var 0) .tuple)) (.cmp .ne (.b1 .len (.var 0)) (.c (.int 2)))) (.cons (.rse 6 (.cons (.var 0) .nil)) .nil) .nil) (.cons (.ife (.or (.not (.call Lib.counters.f_is_whole (.cons (.idx (.var 0) (.c (.int 0))) (.cons (.c (.int 1)) (.cons (.glb 70 Lib.sheets.k_MOST_LINES) .nil))))) (.not (.call Lib.counters.f_is_whole (.cons (.idx (.var 0) (.c (.int 1))) (.cons (.c (.int 1)) (.cons (.glb 70 Lib.sheets.k_MOST_LINES) .nil)))))) (.cons (.rse 6 (.cons (.var 0) .nil)) .nil) .nil) (.cons (.ret (.var 0)) .nil)))
def fn_need_sheet : G.Fn := ⟨1, 1, b_need_sheet⟩
def b_need_way : G.Ss := (.cons (.ife (.or (.not (.isi (.var 0) .str)) (.cmp .nin (.var 0) (.glb 76 Lib.sheets.k_WAYS))) (.cons (.rse 12 (.cons (.c (.str [110, 111, 32, 119, 97, 121])) .nil)) .nil) .nil) .nil)
def fn_need_way : G.Fn := ⟨1, 1, b_need_way⟩
def b_serial_in : G.Ss := (.cons (.asgT [3, 4] (.var 0)) (.cons (.asgT [5, 6] (.var 2)) (.cons (.ife (.cmp .eq (.var 1) (.glb 74 Lib.sheets.k_ROWS)) (.cons (.ret (.bin .add (.bin .mul (.var 5) (.var 3)) (.var 6))) .nil) .nil) (.cons (.ife (.cmp .eq (.var 1) (.glb 73 Lib.sheets.k_LANES)) (.cons (.ret (.bin .add (.bin .mul (.var 6) (.var 4)) (.var 5))) .nil) .nil) (.cons (.ife (.cmp .eq (.var 1) (.glb 75 Lib.sheets.k_TURNS)) (.cons (.ret (.bin .add (.bin .mul (.var 5) (.var 3)) (.ife (.cmp .eq (.bin .mod (.b1 .int (.var 5)) (.c (.int 2))) (.c (.int 0))) (.var 6) (.bin .sub (.bin .sub (.var 3) (.c (.int 1))) (.var 6))))) .nil) .nil) (.cons (.ret (.bin .add (.bin .mul (.var 6) (.var 4)) (.ife (.cmp .eq (.bin .mod (.b1 .int (.var 6)) (.c (.int 2))) (.c (.int 0))) (.var 5) (.bin .sub (.bin .sub (.var 4) (.c (.int 1))) (.var 5))))) .nil))))))
def fn_serial_in : G.Fn := ⟨3, 7, b_serial_in⟩
def b_place_in : G.Ss := (.cons (.asgT [3, 4] (.var 0)) (.cons (.ife (.cmp .in_ (.var 1) (.tup (.cons (.glb 74 Lib.sheets.k_ROWS) (.cons (.glb 75 Lib.sheets.k_TURNS) .nil)))) (.cons (.asgT [6, 5] (.tup (.cons (.bin .fdiv (.var 2) (.var 3)) (.cons (.bin .mod (.b1 .int (.var 2)) (.var 3)) .nil)))) (.cons (.ret (.tup (.cons (.var 6) (.cons (.ife (.or (.cmp .eq (.var 1) (.glb 74 Lib.sheets.k_ROWS)) (.cmp .eq (.bin .mod (.b1 .int (.var 6)) (.c (.int 2))) (.c (.int 0)))) (.var 5) (.bin .sub (.bin .sub (.var 3) (.c (.int 1))) (.var 5))) .nil)))) .nil)) .nil) (.cons (.asgT [5, 6] (.tup (.cons (.bin .fdiv (.var 2) (.var 4)) (.cons (.bin .mod (.b1 .int (.var 2)) (.var 4)) .nil)))) (.cons (.ret (.tup (.cons (.ife (.or (.cmp .eq (.var 1) (.glb 73 Lib.sheets.k_LANES)) (.cmp .eq (.bin .mod (.b1 .int (.var 5)) (.c (.int 2))) (.c (.int 0)))) (.var 6) (.bin .sub (.bin .sub (.var 4) (.c (.int 1))) (.var 6))) (.cons (.var 5) .nil)))) .nil))))
def fn_place_in : G.Fn := ⟨3, 7, b_place_in⟩
def b_serial_at : G.Ss := (.cons (.ex (.call Lib.sheets.f_need_sheet (.cons (.var 0) .nil))) (.cons (.ex (.call Lib.sheets.f_need_way (.cons (.var 1) .nil))) (.cons (.ife (.or (.not (.isi (.var 2) .tuple)) (.or (.cmp .ne (.b1 .len (.var 2)) (.c (.int 2))) (.not (.call Lib.counters.f_is_whole (.cons (.idx (.var 2) (.c (.int 0))) (.cons (.c (.int 0)) (.cons (.bin .sub (.idx (.var 0) (.c (.int 1))) (.c (.int 1))) .nil))))))) (.cons (.rse 12 (.cons (.c (.str [110, 111, 32, 112, 108, 97, 99, 101])) .nil)) .nil) .nil) (.cons (.ife (.not (.call Lib.counters.f_is_whole (.cons (.idx (.var 2) (.c (.int 1))) (.cons (.c (.int 0)) (.cons (.bin .sub (.idx (.var 0) (.c (.int 0))) (.c (.int 1))) .nil))))) (.cons (.rse 12 (.cons (.c (.str [110, 111, 32, 112, 108, 97, 99, 101])) .nil)) .nil) .nil) (.cons (.ret (.call Lib.sheets.f_serial_in (.cons (.var 0) (.cons (.var 1) (.cons (.var 2) .nil))))) .nil)))))
def fn_serial_at : G.Fn := ⟨3, 3, b_serial_at⟩
def b_need_serial : G.Ss := (.cons (.ife (.not (.call Lib.counters.f_is_whole (.cons (.var 1) (.cons (.c (.int 0)) (.cons (.bin .sub (.bin .mul (.idx (.var 0) (.c (.int 0))) (.idx (.var 0) (.c (.int 1)))) (.c (.int 1))) .nil))))) (.cons (.rse 12 (.cons (.c (.str [110, 111, 32, 115, 101, 114, 105, 97, 108])) .nil)) .nil) .nil) .nil)
def fn_need_serial : G.Fn := ⟨2, 2, b_need_serial⟩
def b_place_of : G.Ss := (.cons (.ex (.call Lib.sheets.f_need_sheet (.cons (.var 0) .nil))) (.cons (.ex (.call Lib.sheets.f_need_way (.cons (.var 1) .nil))) (.cons (.ex (.call Lib.sheets.f_need_serial (.cons (.var 0) (.cons (.var 2) .nil)))) (.cons (.ret (.call Lib.sheets.f_place_in (.cons (.var 0) (.cons (.var 1) (.cons (.var 2) .nil))))) .nil))))
def fn_place_of : G.Fn := ⟨3, 3, b_place_of⟩
def b_moved_in : G.Ss := (.cons (.ret (.call Lib.sheets.f_serial_in (.cons (.var 0) (.cons (.var 2) (.cons (.call Lib.sheets.f_place_in (.cons (.var 0) (.cons (.var 1) (.cons (.var 3) .nil)))) .nil))))) .nil)
def fn_moved_in : G.Fn := ⟨4, 4, b_moved_in⟩
def b_need_ways : G.Ss := (.cons (.ex (.call Lib.sheets.f_need_sheet (.cons (.var 0) .nil))) (.cons (.ex (.call Lib.sheets.f_need_way (.cons (.var 1) .nil))) (.cons (.ex (.call Lib.sheets.f_need_way (.cons (.var 2) .nil))) .nil)))
def fn_need_ways : G.Fn := ⟨3, 3, b_need_ways⟩
def b_moves_to : G.Ss := (.cons (.ex (.call Lib.sheets.f_need_ways (.cons (.var 0) (.cons (.var 1) (.cons (.var 2) .nil))))) (.cons (.ex (.call Lib.sheets.f_need_serial (.cons (.var 0) (.cons (.var 3) .nil)))) (.cons (.ret (.call Lib.sheets.f_moved_in (.cons (.var 0) (.cons (.var 1) (.cons (.var 2) (.cons (.var 3) .nil)))))) .nil)))
def fn_moves_to : G.Fn := ⟨4, 4, b_moves_to⟩
def b_need_small : G.Ss := (.cons (.ife (.cmp .gt (.bin .mul (.idx (.var 0) (.c (.int 0))) (.idx (.var 0) (.c (.int 1)))) (.glb 71 Lib.sheets.k_MOST_PLACES)) (.cons (.rse 13 (.cons (.glb 71 Lib.sheets.k_MOST_PLACES) .nil)) .nil) .nil) .nil)
def fn_need_small : G.Fn := ⟨1, 1, b_need_small⟩
def b_many_staying : G.Ss := (.cons (.ex (.call Lib.sheets.f_need_ways (.cons (.var 0) (.cons (.var 1) (.cons (.var 2) .nil))))) (.cons (.asgT [3, 4] (.var 0)) (.cons (.ife (.cmp .eq (.var 1) (.var 2)) (.cons (.ret (.bin .mul (.var 3) (.var 4))) .nil) .nil) (.cons (.ife (.cmp .eq (.b1 .sorted (.lst (.cons (.var 1) (.cons (.var 2) .nil)))) (.lst (.cons (.glb 73 Lib.sheets.k_LANES) (.cons (.glb 74 Lib.sheets.k_ROWS) .nil)))) (.cons (.ret (.ife (.cmp .in_ (.c (.int 1)) (.var 0)) (.bin .mul (.var 3) (.var 4)) (.bin .add (.call Lib.runs.f_common (.cons (.bin .sub (.var 3) (.c (.int 1))) (.cons (.bin .sub (.var 4) (.c (.int 1))) .nil))) (.c (.int 1))))) .nil) .nil) (.cons (.ex (.call Lib.sheets.f_need_small (.cons (.var 0) .nil))) (.cons (.ret (.b1 .len (.lc [5] (.one 5) (.r1 (.bin .mul (.var 3) (.var 4))) (.cons (.cmp .eq (.call Lib.sheets.f_moved_in (.cons (.var 0) (.cons (.var 1) (.cons (.var 2) (.cons (.var 5) .nil))))) (.var 5)) .nil) (.c (.int 1))))) .nil))))))
def fn_many_staying : G.Fn := ⟨3, 6, b_many_staying⟩
def b_ring_sizes : G.Ss := (.cons (.asgT [4, 5] (.tup (.cons .dk0 (.cons (.lst .nil) .nil)))) (.cons (.for_ (.one 3) (.r1 (.bin .mul (.idx (.var 0) (.c (.int 0))) (.idx (.var 0) (.c (.int 1))))) (.cons (.asgT [6, 7] (.tup (.cons (.var 3) (.cons (.c (.int 0)) .nil)))) (.cons (.whl (.cmp .nin (.var 6) (.var 4)) (.cons (.set (.var 4) (.var 6) (.c (.bl true))) (.cons (.asg 6 (.call Lib.sheets.f_moved_in (.cons (.var 0) (.cons (.var 1) (.cons (.var 2) (.cons (.var 6) .nil)))))) (.cons (.aug 7 .add (.c (.int 1))) .nil)))) (.cons (.ife (.cmp .gt (.var 7) (.c (.int 0))) (.cons (.ex (.mt .append (.var 5) (.cons (.var 7) .nil))) .nil) .nil) .nil)))) (.cons (.ret (.var 5)) .nil)))
def fn_ring_sizes : G.Fn := ⟨3, 8, b_ring_sizes⟩
def b_rounds : G.Ss := (.cons (.ex (.call Lib.sheets.f_need_ways (.cons (.var 0) (.cons (.var 1) (.cons (.var 2) .nil))))) (.cons (.ex (.call Lib.sheets.f_need_small (.cons (.var 0) .nil))) (.cons (.asg 3 (.c (.int 1))) (.cons (.for_ (.one 4) (.seq (.call Lib.sheets.f_ring_sizes (.cons (.var 0) (.cons (.var 1) (.cons (.var 2) .nil))))) (.cons (.asg 3 (.bin .mul (.bin .fdiv (.var 3) (.call Lib.runs.f_common (.cons (.var 3) (.cons (.var 4) .nil)))) (.var 4))) .nil)) (.cons (.ret (.var 3)) .nil)))))
def fn_rounds : G.Fn := ⟨3, 5, b_rounds⟩
end Lib.sheets
namespace Lib.rolls
def b_need_lengths : G.Ss := (.cons (.ife (.or (.not (.isi (.var 0) .tuple)) (.not (.ch .le .le (.c (.int 1)) (.b1 .len (.var 0)) (.glb 60 Lib.rolls.k_MOST_LABELS)))) (.cons (.rse 7 (.cons (.c .non) .nil)) .nil) .nil) (.cons (.for_ (.many [1, 2]) (.enu (.var 0)) (.cons (.ife (.not (.call Lib.counters.f_is_whole (.cons (.var 2) (.cons (.c (.int 1)) (.cons (.glb 61 Lib.rolls.k_MOST_LENGTH) .nil))))) (.cons (.rse 7 (.cons (.var 1) .nil)) .nil) .nil) .nil)) (.cons (.ret (.var 0)) .nil)))
def fn_need_lengths : G.Fn := ⟨1, 3, b_need_lengths⟩
def b_need_room : G.Ss := (.cons (.ex (.call Lib.rolls.f_need_lengths (.cons (.var 0) .nil))) (.cons (.ife (.not (.call Lib.counters.f_is_whole (.cons (.var 1) (.cons (.b1 .max (.var 0)) (.cons (.glb 61 Lib.rolls.k_MOST_LENGTH) .nil))))) (.cons (.rse 12 (.cons (.c (.str [110, 111, 32, 108, 101, 110, 103, 116, 104, 32, 111, 102, 32, 114, 111, 108, 108, 115])) .nil)) .nil) .nil) .nil))
def fn_need_room : G.Fn := ⟨2, 2, b_need_room⟩
def b_begins_of : G.Ss := (.cons (.asgT [2, 3] (.tup (.cons (.lst .nil) (.cons (.neg (.c (.int 1))) .nil)))) (.cons (.for_ (.many [4, 5]) (.enu (.var 0)) (.cons (.ife (.cmp .lt (.var 3) (.var 5)) (.cons (.ex (.mt .append (.var 2) (.cons (.var 4) .nil))) (.cons (.asg 3 (.var 1)) .nil)) .nil) (.cons (.aug 3 .sub (.var 5)) .nil))) (.cons (.ret (.var 2)) .nil)))
def fn_begins_of : G.Fn := ⟨2, 6, b_begins_of⟩
def b_fewest_rolls : G.Ss := (.cons (.ex (.call Lib.rolls.f_need_room (.cons (.var 0) (.cons (.var 1) .nil)))) (.cons (.ret (.b1 .len (.call Lib.rolls.f_begins_of (.cons (.var 0) (.cons (.var 1) .nil))))) .nil))
def fn_fewest_rolls : G.Fn := ⟨2, 2, b_fewest_rolls⟩
def b_split_in : G.Ss := (.cons (.asg 2 (.call Lib.rolls.f_begins_of (.cons (.var 0) (.cons (.var 1) .nil)))) (.cons (.ret (.b1 .tuple (.lc [3, 4] (.many [3, 4]) (.zip (.var 2) (.bin .add (.slc (.var 2) (.some (.c (.int 1))) .none) (.lst (.cons (.b1 .len (.var 0)) .nil)))) .nil (.bin .sub (.var 4) (.var 3))))) .nil))
def fn_split_in : G.Fn := ⟨2, 5, b_split_in⟩
def b_split : G.Ss := (.cons (.ex (.call Lib.rolls.f_need_room (.cons (.var 0) (.cons (.var 1) .nil)))) (.cons (.ret (.call Lib.rolls.f_split_in (.cons (.var 0) (.cons (.var 1) .nil)))) .nil))
def fn_split : G.Fn := ⟨2, 2, b_split⟩
def b_rolls_paper : G.Ss := (.cons (.ex (.call Lib.rolls.f_need_room (.cons (.var 0) (.cons (.var 1) .nil)))) (.cons (.ret (.tup (.cons (.call Lib.rolls.f_split_in (.cons (.var 0) (.cons (.var 1) .nil))) (.cons (.b1 .tuple (.call Lib.rolls.f_begins_of (.cons (.var 0) (.cons (.var 1) .nil)))) .nil)))) .nil))
def fn_rolls_paper : G.Fn := ⟨2, 2, b_rolls_paper⟩
def b_is_split : G.Ss := (.cons (.ife (.or (.not (.isi (.var 2) .tuple)) (.not (.b1 .all (.lc [4] (.one 4) (.seq (.var 2)) .nil (.call Lib.counters.f_is_whole (.cons (.var 4) (.cons (.c (.int 1)) (.cons (.c .non) .nil)))))))) (.cons (.ret (.c (.bl false))) .nil) .nil) (.cons (.ife (.cmp .ne (.b1 .sum (.var 2)) (.b1 .len (.var 0))) (.cons (.ret (.c (.bl false))) .nil) .nil) (.cons (.asg 3 (.c (.int 0))) (.cons (.for_ (.one 4) (.seq (.var 2)) (.cons (.ife (.cmp .gt (.b1 .sum (.slc (.var 0) (.some (.var 3)) (.some (.bin .add (.var 3) (.var 4))))) (.var 1)) (.cons (.ret (.c (.bl false))) .nil) .nil) (.cons (.aug 3 .add (.var 4)) .nil))) (.cons (.ret (.c (.bl true))) .nil)))))
def fn_is_split : G.Fn := ⟨3, 5, b_is_split⟩
def b_are_stops : G.Ss := (.cons (.ife (.or (.not (.isi (.var 2) .tuple)) (.or (.cmp .ne (.b1 .len (.var 2)) (.var 3)) (.cmp .ne (.slc (.var 2) .none (.some (.c (.int 1)))) (.tup (.cons (.c (.int 0)) .nil))))) (.cons (.ret (.c (.bl false))) .nil) .nil) (.cons (.ife (.not (.b1 .all (.lc [4] (.one 4) (.seq (.var 2)) .nil (.call Lib.counters.f_is_whole (.cons (.var 4) (.cons (.c (.int 0)) (.cons (.bin .sub (.b1 .len (.var 0)) (.c (.int 1))) .nil))))))) (.cons (.ret (.c (.bl false))) .nil) .nil) (.cons (.ife (.not (.b1 .all (.lc [5, 6] (.many [5, 6]) (.zip (.var 2) (.slc (.var 2) (.some (.c (.int 1))) .none)) .nil (.cmp .lt (.var 5) (.var 6))))) (.cons (.ret (.c (.bl false))) .nil) .nil) (.cons (.ret (.b1 .all (.lc [5, 6] (.many [5, 6]) (.zip (.var 2) (.slc (.var 2) (.some (.c (.int 1))) .none)) .nil (.cmp .gt (.b1 .sum (.slc (.var 0) (.some (.var 5)) (.some (.bin .add (.var 6) (.c (.int 1)))))) (.var 1))))) .nil))))
def fn_are_stops : G.Fn := ⟨4, 7, b_are_stops⟩
def b_check_rolls : G.Ss := (.cons (.ex (.call Lib.rolls.f_need_room (.cons (.var 0) (.cons (.var 1) .nil)))) (.cons (.ife (.or (.not (.isi (.var 2) .tuple)) (.cmp .ne (.b1 .len (.var 2)) (.c (.int 2)))) (.cons (.rse 10 (.cons (.c (.str [102, 111, 114, 109])) .nil)) .nil) .nil) (.cons (.ife (.not (.call Lib.rolls.f_is_split (.cons (.var 0) (.cons (.var 1) (.cons (.idx (.var 2) (.c (.int 0))) .nil))))) (.cons (.rse 10 (.cons (.c (.str [115, 112, 108, 105, 116])) .nil)) .nil) .nil) (.cons (.ife (.not (.call Lib.rolls.f_are_stops (.cons (.var 0) (.cons (.var 1) (.cons (.idx (.var 2) (.c (.int 1))) (.cons (.b1 .len (.idx (.var 2) (.c (.int 0)))) .nil)))))) (.cons (.rse 10 (.cons (.c (.str [115, 116, 111, 112, 115])) .nil)) .nil) .nil) (.cons (.ret (.b1 .len (.idx (.var 2) (.c (.int 0))))) .nil)))))
def fn_check_rolls : G.Fn := ⟨3, 3, b_check_rolls⟩
def b_least_length : G.Ss := (.cons (.ex (.call Lib.rolls.f_need_lengths (.cons (.var 0) .nil))) (.cons (.ife (.not (.call Lib.counters.f_is_whole (.cons (.var 1) (.cons (.c (.int 1)) (.cons (.c .non) .nil))))) (.cons (.rse 12 (.cons (.c (.str [110, 111, 32, 110, 117, 109, 98, 101, 114, 32, 111, 102, 32, 114, 111, 108, 108, 115])) .nil)) .nil) .nil) (.cons (.asgT [2, 3] (.tup (.cons (.bin .sub (.b1 .max (.var 0)) (.c (.int 1))) (.cons (.b1 .sum (.var 0)) .nil)))) (.cons (.whl (.cmp .gt (.bin .sub (.var 3) (.var 2)) (.c (.int 1))) (.cons (.asg 4 (.bin .fdiv (.bin .add (.var 2) (.var 3)) (.c (.int 2)))) (.cons (.ife (.cmp .le (.b1 .len (.call Lib.rolls.f_begins_of (.cons (.var 0) (.cons (.var 4) .nil)))) (.var 1)) (.cons (.asg 3 (.var 4)) .nil) (.cons (.asg 2 (.var 4)) .nil)) .nil))) (.cons (.ret (.var 3)) .nil)))))
def fn_least_length : G.Fn := ⟨2, 5, b_least_length⟩
end Lib.rolls

/-! PL: where multiples first come into a range (plain mathematics). -/
namespace PL
/-- a question -/
structure Q where
  a : Int
  m : Int
  l : Int
  u : Int
structure Q.ok (q : Q) : Prop where
  a0 : 0 ≤ q.a
  am : q.a < q.m
  l0 : 0 ≤ q.l
  lu : q.l ≤ q.u
  um : q.u < q.m
def hit (q : Q) (t : Int) : Prop := q.l ≤ q.a * t % q.m ∧ q.a * t % q.m ≤ q.u
def IsAns (q : Q) : Option Int → Prop
  | none => ∀ t, 0 ≤ t → ¬ hit q t
  | some t => 0 ≤ t ∧ hit q t ∧ ∀ s, 0 ≤ s → s < t → ¬ hit q s
theorem ans_eq {q : Q} : ∀ {x y : Option Int}, IsAns q x → IsAns q y → x = y
  | none, none, _, _ => rfl
  | none, some t, a, b => absurd b.2.1 (a t b.1)
  | some t, none, a, b => absurd a.2.1 (b t a.1)
  | some t, some s, a, b => by
    by_cases h1 : t < s
    · exact absurd a.2.1 (b.2.2 t a.1 h1)
    · by_cases h2 : s < t
      · exact absurd b.2.1 (a.2.2 s b.1 h2)
      · rw [show t = s by omega]
/-- hits come again behind the modulus -/
theorem hit_mod {q : Q} {t : Int} (h : hit q t) : hit q (t % q.m) := by
  have e : q.a * (t % q.m) % q.m = q.a * t % q.m := by
    rw [Int.mul_emod, Int.emod_emod_of_dvd _ (Int.dvd_refl _), ← Int.mul_emod]
  simp only [hit, e]
  exact h
theorem ans_lt {q : Q} {t : Int} (hm : 0 < q.m) (h : IsAns q (some t)) : t < q.m := by
  obtain ⟨t0, ht, hn⟩ := h
  refine Int.not_le.mp fun hle => ?_
  have h1 := Int.emod_nonneg t (show q.m ≠ 0 by omega)
  have h2 := Int.emod_lt_of_pos t hm
  exact hn (t % q.m) h1 (by omega) (hit_mod ht)
/-- how often -/
def up (a l : Int) : Int := (l + a - 1) / a
theorem up_spec {a l : Int} (ha : 0 < a) : l ≤ up a l * a ∧ up a l * a < l + a := by
  have e := Int.mul_ediv_add_emod (l + a - 1) a
  have h0 := Int.emod_nonneg (l + a - 1) (show a ≠ 0 by omega)
  have h1 := Int.emod_lt_of_pos (l + a - 1) ha
  unfold up
  rw [Int.mul_comm] at e
  constructor <;> omega
theorem up_le {a l t : Int} (ha : 0 < a) (h : l ≤ t * a) : up a l ≤ t := by
  have := (up_spec (l := l) ha).2
  have h2 : up a l * a < (t + 1) * a := by rw [Int.add_mul, Int.one_mul]; omega
  have := Int.lt_of_mul_lt_mul_right h2 (by omega)
  omega
theorem up_nonneg {a l : Int} (ha : 0 < a) (hl : 0 ≤ l) : 0 ≤ up a l := Int.ediv_nonneg (by omega) (by omega)
def plain (q : Q) : Prop := q.l = 0 ∨ q.a = 0 ∨ up q.a q.l * q.a ≤ q.u
instance (q : Q) : Decidable (plain q) := by unfold plain; infer_instance
def base (q : Q) : Option Int := if q.l = 0 then some 0 else if q.a = 0 then none else some (up q.a q.l)
theorem base_ans {q : Q} (k : q.ok) (h : plain q) : IsAns q (base q) := by
  unfold base
  by_cases hl : q.l = 0
  · rw [if_pos hl]
    refine ⟨Int.le_refl _, ?_, fun s h1 h2 => by omega⟩
    have := k.lu
    simp only [hit, Int.mul_zero, Int.zero_emod]
    omega
  · rw [if_neg hl]
    have hl2 := k.l0
    by_cases ha : q.a = 0
    · rw [if_pos ha]
      intro t _ hh
      have := hh.1
      rw [ha, Int.zero_mul, Int.zero_emod] at this
      omega
    · rw [if_neg ha]
      have ha2 := k.a0
      have ap : 0 < q.a := by omega
      obtain ⟨s1, s2⟩ := up_spec (l := q.l) ap
      have hu : up q.a q.l * q.a ≤ q.u := by
        rcases h with z | z | z
        · exact absurd z hl
        · exact absurd z ha
        · exact z
      have um := k.um
      refine ⟨up_nonneg ap hl2, ?_, fun s h0 hs hh => ?_⟩
      · have e : q.a * up q.a q.l % q.m = up q.a q.l * q.a := by
          rw [Int.mul_comm]
          exact Int.emod_eq_of_lt (by omega) (by omega)
        simp only [hit, e]
        omega
      · have h2 : s * q.a < q.l := by
          refine Int.not_le.mp fun z => ?_
          have := up_le ap z
          omega
        have h3 : 0 ≤ s * q.a := Int.mul_nonneg h0 (by omega)
        have e : q.a * s % q.m = s * q.a := by
          rw [Int.mul_comm]
          exact Int.emod_eq_of_lt h3 (by omega)
        have := hh.1
        rw [e] at this
        omega
/-- the question behind -/
def nxt (q : Q) : Q := ⟨q.m % q.a, q.a, (0 - q.u) % q.a, (0 - q.l) % q.a⟩
/-- between which multiples a range without one lies -/
theorem gap {q : Q} (k : q.ok) (h : ¬ plain q) : 0 < q.a ∧ 0 < q.l ∧ ∃ c, c * q.a < q.l ∧ q.u < (c + 1) * q.a := by
  have l0 := k.l0
  have a0 := k.a0
  have hl : q.l ≠ 0 := fun z => h (.inl z)
  have ha : q.a ≠ 0 := fun z => h (.inr (.inl z))
  have ap : 0 < q.a := by omega
  have hu : ¬ up q.a q.l * q.a ≤ q.u := fun z => h (.inr (.inr z))
  obtain ⟨s1, s2⟩ := up_spec (l := q.l) ap
  refine ⟨ap, by omega, up q.a q.l - 1, ?_, ?_⟩
  · rw [Int.sub_mul, Int.one_mul]; omega
  · rw [Int.sub_add_cancel]; omega
theorem mod_of {x y a c : Int} (h : x = c * a + y) (h0 : 0 ≤ y) (h1 : y < a) : x % a = y := by
  rw [h, Int.add_comm, Int.add_mul_emod_self_right]
  exact Int.emod_eq_of_lt h0 h1
theorem nxt_ok {q : Q} (k : q.ok) (h : ¬ plain q) : (nxt q).ok ∧ 0 < (nxt q).l := by
  obtain ⟨ap, lp, c, c1, c2⟩ := gap k h
  have lu := k.lu
  have e : (c + 1) * q.a = c * q.a + q.a := by rw [Int.add_mul, Int.one_mul]
  have e1 : (0 - q.u) % q.a = (c + 1) * q.a - q.u := mod_of (c := -(c + 1)) (by rw [Int.neg_mul]; omega) (by omega) (by omega)
  have e2 : (0 - q.l) % q.a = (c + 1) * q.a - q.l := mod_of (c := -(c + 1)) (by rw [Int.neg_mul]; omega) (by omega) (by omega)
  have m0 := Int.emod_nonneg q.m (show q.a ≠ 0 by omega)
  have m1 := Int.emod_lt_of_pos q.m ap
  refine ⟨⟨m0, m1, ?_, ?_, ?_⟩, ?_⟩ <;> simp only [nxt, e1, e2] <;> omega
theorem hit_step {q : Q} (k : q.ok) (h : ¬ plain q) (s : Int) (s0 : 0 ≤ s) : hit (nxt q) s ↔ ∃ t, q.l + q.m * s ≤ t * q.a ∧ t * q.a ≤ q.u + q.m * s := by
  obtain ⟨ap, lp, c, c1, c2⟩ := gap k h
  have lu := k.lu
  have e : (c + 1) * q.a = c * q.a + q.a := by rw [Int.add_mul, Int.one_mul]
  have e1 : (0 - q.u) % q.a = (c + 1) * q.a - q.u := mod_of (c := -(c + 1)) (by rw [Int.neg_mul]; omega) (by omega) (by omega)
  have e2 : (0 - q.l) % q.a = (c + 1) * q.a - q.l := mod_of (c := -(c + 1)) (by rw [Int.neg_mul]; omega) (by omega) (by omega)
  have e3 : q.m % q.a * s % q.a = q.m * s % q.a := by rw [Int.mul_emod, Int.emod_emod_of_dvd _ (Int.dvd_refl _), ← Int.mul_emod]
  have d := Int.mul_ediv_add_emod (q.m * s) q.a
  have r0 := Int.emod_nonneg (q.m * s) (show q.a ≠ 0 by omega)
  have r1 := Int.emod_lt_of_pos (q.m * s) ap
  simp only [hit, nxt, e1, e2, e3]
  generalize q.m * s % q.a = r at d r0 r1
  generalize hj : q.m * s / q.a = j at d
  rw [Int.mul_comm] at d
  constructor
  · intro ⟨x, y⟩
    refine ⟨c + 1 + j, ?_, ?_⟩ <;> rw [Int.add_mul] <;> omega
  · rintro ⟨t, x, y⟩
    have f : (t - j) * q.a = t * q.a - j * q.a := by rw [Int.sub_mul]
    have g1 : c * q.a < (t - j) * q.a := by omega
    have g2 : (t - j) * q.a < (c + 2) * q.a := by rw [show c + 2 = c + 1 + 1 by omega, Int.add_mul (c + 1), Int.one_mul]; omega
    have g3 := Int.lt_of_mul_lt_mul_right g1 (by omega)
    have g4 := Int.lt_of_mul_lt_mul_right g2 (by omega)
    have g5 : t - j = c + 1 := by omega
    rw [g5] at f
    omega
theorem step_ans {q : Q} (k : q.ok) (h : ¬ plain q) {o : Option Int} (i : IsAns (nxt q) o) : IsAns q (o.map fun s => up q.a (q.l + q.m * s)) := by
  obtain ⟨ap, lp, _⟩ := gap k h
  have mp : 0 < q.m := by have := k.am; omega
  have um := k.um
  /- a hit of q tells one of the question behind -/
  have down : ∀ t, 0 ≤ t → hit q t → 0 ≤ q.a * t / q.m ∧ q.l + q.m * (q.a * t / q.m) ≤ t * q.a ∧ t * q.a ≤ q.u + q.m * (q.a * t / q.m) := fun t t0 ht => by
    have d := Int.mul_ediv_add_emod (q.a * t) q.m
    have n : 0 ≤ q.a * t := Int.mul_nonneg (by omega) t0
    have n2 : 0 ≤ q.a * t / q.m := Int.ediv_nonneg n (by omega)
    have c := Int.mul_comm q.a t
    obtain ⟨h1, h2⟩ := ht
    exact ⟨n2, by omega, by omega⟩
  cases o with
  | none =>
    intro t t0 ht
    obtain ⟨n, d1, d2⟩ := down t t0 ht
    exact i _ n ((hit_step k h _ n).mpr ⟨t, d1, d2⟩)
  | some s =>
    obtain ⟨s0, hs, hn⟩ := i
    obtain ⟨t, t1, t2⟩ := (hit_step k h s s0).mp hs
    have ms : 0 ≤ q.m * s := Int.mul_nonneg (by omega) s0
    obtain ⟨u1, u2⟩ := up_spec (l := q.l + q.m * s) ap
    have ut := up_le ap t1
    have un : 0 ≤ up q.a (q.l + q.m * s) := up_nonneg ap (by omega)
    have u3 : up q.a (q.l + q.m * s) * q.a ≤ t * q.a := Int.mul_le_mul_of_nonneg_right ut (by omega)
    show IsAns q (some (up q.a (q.l + q.m * s)))
    refine ⟨un, ?_, fun z z0 zl zh => ?_⟩
    · have e : q.a * up q.a (q.l + q.m * s) % q.m = up q.a (q.l + q.m * s) * q.a - q.m * s := by
        refine mod_of (c := s) ?_ (by omega) (by omega)
        rw [Int.mul_comm, Int.mul_comm s]
        omega
      simp only [hit, e]
      omega
    · obtain ⟨n, d1, d2⟩ := down z z0 zh
      have hz := (hit_step k h _ n).mpr ⟨z, d1, d2⟩
      have ge : s ≤ q.a * z / q.m := Int.not_lt.mp fun lt => hn _ n lt hz
      have ge2 : q.m * s ≤ q.m * (q.a * z / q.m) := Int.mul_le_mul_of_nonneg_left ge (by omega)
      have := up_le ap (l := q.l + q.m * s) (t := z) (by omega)
      omega
/-- the ladder of a question -/
inductive Lad : Q → List Q → Prop
  | stop {q : Q} : plain q → Lad q [q]
  | step {q : Q} {r : List Q} : ¬ plain q → Lad (nxt q) r → Lad q (q :: r)
def ansR : List Q → Option Int
  | [] => none
  | [q] => base q
  | q :: r => (ansR r).map fun s => up q.a (q.l + q.m * s)
theorem Lad.ne {q : Q} {r : List Q} (h : Lad q r) : r ≠ [] := by cases h <;> simp
theorem Lad.ans {q : Q} {r : List Q} (h : Lad q r) : q.ok → IsAns q (ansR r) := by
  induction h with
  | stop p => exact fun k => base_ans k p
  | step p l ih =>
    intro k
    rename_i q0 r0
    have e : ansR (q0 :: r0) = (ansR r0).map fun s => up q0.a (q0.l + q0.m * s) := by
      cases r0 with
      | nil => exact absurd rfl l.ne
      | cons x r => rfl
    rw [e]
    exact step_ans k p (ih (nxt_ok k p).1)
theorem lad_ex : ∀ (n : Nat) (q : Q), q.ok → q.a.toNat < n → ∃ r, Lad q r
  | 0, q, k, h => by omega
  | n + 1, q, k, h => by
    by_cases p : plain q
    · exact ⟨_, .stop p⟩
    · obtain ⟨ap, _, _⟩ := gap k p
      have m0 := Int.emod_nonneg q.m (show q.a ≠ 0 by omega)
      have m1 := Int.emod_lt_of_pos q.m ap
      obtain ⟨r, hr⟩ := lad_ex n (nxt q) (nxt_ok k p).1 (by show (q.m % q.a).toNat < n; omega)
      exact ⟨_, .step p hr⟩
theorem Lad.all {q : Q} {r : List Q} (h : Lad q r) : q.ok → ∀ x ∈ r, x.ok ∧ x.m ≤ q.m := by
  induction h with
  | stop p => intro k x hx; simp at hx; subst hx; exact ⟨k, Int.le_refl _⟩
  | step p l ih =>
    intro k x hx
    rcases List.mem_cons.mp hx with rfl | hx
    · exact ⟨k, Int.le_refl _⟩
    · obtain ⟨i1, i2⟩ := ih (nxt_ok k p).1 x hx
      have := k.am
      exact ⟨i1, by simp only [nxt] at i2; omega⟩
/-! ### how long a ladder is -/
def fib : Nat → Nat
  | 0 => 0
  | 1 => 1
  | n + 2 => fib (n + 1) + fib n
theorem Lad.fib {q : Q} {r : List Q} (h : Lad q r) : q.ok → ∀ n, r.length = n + 2 → (fib (n + 4) : Int) ≤ q.m ∧ (fib (n + 3) : Int) ≤ q.a := by
  induction h with
  | stop p => intro k n e; simp at e
  | step p l ih =>
    intro k n e
    rename_i q0 r0
    obtain ⟨ap, lp, c, c1, c2⟩ := gap k p
    have am := k.am
    have lu := k.lu
    cases n with
    | zero =>
      have a2 : 2 ≤ q0.a := by
        refine Int.not_lt.mp fun z => ?_
        have : q0.a = 1 := by omega
        rw [this, Int.mul_one] at c1 c2
        omega
      have f4 : PL.fib 4 = 3 := rfl
      have f3 : PL.fib 3 = 2 := rfl
      rw [f4, f3]
      omega
    | succ n =>
      obtain ⟨i1, i2⟩ := ih (nxt_ok k p).1 n (by simpa using e)
      simp only [nxt] at i1 i2
      have d := Int.mul_ediv_add_emod q0.m q0.a
      have q1 : 1 ≤ q0.m / q0.a := by
        rw [Int.le_ediv_iff_mul_le ap]
        omega
      have q2 : q0.a * 1 ≤ q0.a * (q0.m / q0.a) := Int.mul_le_mul_of_nonneg_left q1 (by omega)
      have f5 : PL.fib (n + 1 + 4) = PL.fib (n + 4) + PL.fib (n + 3) := rfl
      have f4 : PL.fib (n + 1 + 3) = PL.fib (n + 4) := rfl
      rw [f5, f4]
      omega
theorem fib_mono (n : Nat) : fib n ≤ fib (n + 1) := by
  cases n with
  | zero => decide
  | succ n => show fib (n + 1) ≤ fib (n + 1) + fib n; omega
theorem fib_grow : ∀ n, 3 * fib (n + 3) ≤ 2 * fib (n + 4)
  | 0 => by decide
  | 1 => by decide
  | n + 2 => by
    have i1 := fib_grow n
    have i2 := fib_grow (n + 1)
    have e1 : fib (n + 2 + 3) = fib (n + 1 + 3) + fib (n + 3) := rfl
    have e2 : fib (n + 2 + 4) = fib (n + 1 + 4) + fib (n + 4) := rfl
    omega
theorem fib_ten (n : Nat) : 10 * fib (n + 3) ≤ fib (n + 8) := by
  have g := fib_grow n
  have e5 : fib (n + 5) = fib (n + 4) + fib (n + 3) := rfl
  have e6 : fib (n + 6) = fib (n + 5) + fib (n + 4) := rfl
  have e7 : fib (n + 7) = fib (n + 6) + fib (n + 5) := rfl
  have e8 : fib (n + 8) = fib (n + 7) + fib (n + 6) := rfl
  omega
theorem fib_pow : ∀ d, 10 ^ d ≤ fib (5 * d + 4)
  | 0 => by decide
  | d + 1 => by
    have i := fib_pow d
    have g := fib_ten (5 * d + 1)
    have e : 5 * (d + 1) + 4 = 5 * d + 1 + 8 := by omega
    rw [e, Nat.pow_succ]
    have e2 : 5 * d + 1 + 3 = 5 * d + 4 := by omega
    rw [e2] at g
    omega
theorem fib_le {a b : Nat} (h : a ≤ b) : fib a ≤ fib b := by
  induction h with
  | refl => exact Nat.le_refl _
  | step _ ih => exact Nat.le_trans ih (fib_mono _)
theorem Lad.len {q : Q} {r : List Q} (h : Lad q r) (k : q.ok) {d : Nat} (hd : q.m < 10 ^ d) : r.length ≤ 5 * d + 1 := by
  refine Nat.not_lt.mp fun z => ?_
  obtain ⟨n, en⟩ : ∃ n, r.length = n + 2 := ⟨r.length - 2, by omega⟩
  have f := (h.fib k n en).1
  have g : PL.fib (5 * d + 4) ≤ PL.fib (n + 4) := fib_le (by omega)
  have p := fib_pow d
  have c : ((10 ^ d : Nat) : Int) = (10 : Int) ^ d := by simp
  omega
/-! ### turned about -/
def mir (q : Q) : Q := ⟨q.m - q.a, q.m, q.m - q.u, q.m - q.l⟩
theorem mir_hit {q : Q} (hm : 0 < q.m) (hl : 0 < q.l) (hu : q.u < q.m) (t : Int) : hit (mir q) t ↔ hit q t := by
  have r0 := Int.emod_nonneg (q.a * t) (show q.m ≠ 0 by omega)
  have r1 := Int.emod_lt_of_pos (q.a * t) hm
  have d := Int.mul_ediv_add_emod (q.a * t) q.m
  simp only [hit, mir]
  by_cases z : q.a * t % q.m = 0
  · have e : (q.m - q.a) * t % q.m = 0 := by
      refine mod_of (c := t - q.a * t / q.m) ?_ (Int.le_refl _) hm
      rw [Int.sub_mul, Int.sub_mul, Int.mul_comm q.m t, Int.mul_comm (q.a * t / q.m)]
      omega
    rw [e, z]
    omega
  · have e : (q.m - q.a) * t % q.m = q.m - q.a * t % q.m := by
      refine mod_of (c := t - q.a * t / q.m - 1) ?_ (by omega) (by omega)
      rw [Int.sub_mul, Int.sub_mul, Int.sub_mul, Int.mul_comm q.m t, Int.mul_comm (q.a * t / q.m), Int.one_mul]
      omega
    rw [e]
    omega
theorem mir_ans {q : Q} (hm : 0 < q.m) (hl : 0 < q.l) (hu : q.u < q.m) {o : Option Int} (h : IsAns (mir q) o) : IsAns q o := by
  cases o with
  | none => exact fun t t0 ht => h t t0 ((mir_hit hm hl hu t).mpr ht)
  | some t => exact ⟨h.1, (mir_hit hm hl hu t).mp h.2.1, fun s s0 sl sh => h.2.2 s s0 sl ((mir_hit hm hl hu s).mpr sh)⟩
/-- no answer: a divisor bars it -/
theorem none_bars {q : Q} (k : q.ok) (h : IsAns q none) (g x y : Int) (g0 : 0 < g) (b : q.a * x + q.m * y = g) : q.u < (q.l + g - 1) / g * g := by
  refine Int.not_le.mp fun z => ?_
  have mp : 0 < q.m := by have := k.am; have := k.a0; omega
  obtain ⟨s1, s2⟩ := up_spec (a := g) (l := q.l) g0
  have um := k.um
  have l0 := k.l0
  unfold up at s1 s2
  generalize (q.l + g - 1) / g = c at z s1 s2
  have e : q.a * ((c * x) % q.m) % q.m = c * g := by
    have e1 : q.a * ((c * x) % q.m) % q.m = q.a * (c * x) % q.m := by rw [Int.mul_emod, Int.emod_emod_of_dvd _ (Int.dvd_refl _), ← Int.mul_emod]
    rw [e1]
    refine mod_of (c := -(c * y)) ?_ (by omega) (by omega)
    have e2 : c * g = q.a * (c * x) + c * y * q.m := by
      rw [← b, Int.mul_add, Int.mul_left_comm c q.a x, Int.mul_comm q.m y, ← Int.mul_assoc c y]
    rw [Int.neg_mul]
    omega
  exact h _ (Int.emod_nonneg (c * x) (show q.m ≠ 0 by omega)) ⟨by rw [e]; exact s1, by rw [e]; exact z⟩
end PL

/-! LL: what the defs of ladders give. -/
namespace G
theorem nat_lt {x : Int} {p : Nat} (h0 : 0 ≤ x) (h1 : x < 2 ^ p) : x.natAbs < 2 ^ p := by
  have : ((2 : Int) ^ p) = ((2 ^ p : Nat) : Int) := by simp
  rw [this] at h1
  omega
theorem mul_lt {x y : Int} {p q : Nat} (hx : x.natAbs < 2 ^ p) (hy : y.natAbs < 2 ^ q) : (x * y).natAbs < 2 ^ (p + q) := by
  rw [Int.natAbs_mul, Nat.pow_add]
  exact Nat.mul_lt_mul'' hx hy
/-- a call whose arguments hold no references and whose answer is a value -/
theorem call_val {C : Nat → List D → Hp → R Rv} {f : Nat} {rs : List Rv} {ds : List D} {h h0 hc : Hp} {x : D} (h1 : rs.all Rv.free = true) (h2 : boxAll [] rs = (ds, h0)) (e : C f ds h0 = .ok (.val x) hc) (hx : x.free = true) : callV C f rs h = .ok (.val x) h := by
  unfold callV
  rw [h1]
  simp only [h2, e]
  cases x <;> first | (simp [unbox, Rv.free, hx]; done) | (simp [D.free] at hx)
/-- .. and whose answer is an object that it made -/
theorem call_obj {C : Nat → List D → Hp → R Rv} {f : Nat} {rs : List Rv} {ds : List D} {h h0 hc : Hp} {n : Nat} {o : O} (h1 : rs.all Rv.free = true) (h2 : boxAll [] rs = (ds, h0)) (e : C f ds h0 = .ok (.val (.ref n)) hc) (ho : hc[n]? = some o) (hx : o.free = true) : callV C f rs h = .ok (.new o) h := by
  unfold callV
  rw [h1]
  simp only [h2, e]
  simp [unbox, ho, hx]
def optD : Option Int → D
  | none => .non
  | some i => .int i
section
variable {P : Nat → Option Fn}
theorem s_is_whole (hP : P Lib.counters.f_is_whole = some Lib.counters.fn_is_whole) (k : Nat) (x least : Int) (most : Option Int) (h : Hp) : sem P (k + 1) Lib.counters.f_is_whole [.int x, .int least, optD most] h = .ok (.val (.bl (decide (least ≤ x) && (match most with | none => true | some m => decide (x ≤ m))))) h := by
  rw [sem_succ hP]
  by_cases h1 : x < least
  · have h1' : ¬ least ≤ x := by omega
    simp [ev, tst, evs, exs, ex, runFn, Lib.counters.fn_is_whole, Lib.counters.b_is_whole, h1, h1']
  · have h1' : least ≤ x := by omega
    cases most with
    | none => simp [ev, tst, evs, exs, ex, runFn, Lib.counters.fn_is_whole, Lib.counters.b_is_whole, optD, h1, h1']
    | some m =>
      by_cases h2 : m < x
      · have h2' : ¬ x ≤ m := by omega
        simp [ev, tst, evs, exs, ex, runFn, Lib.counters.fn_is_whole, Lib.counters.b_is_whole, optD, h1, h1', h2, h2']
      · have h2' : x ≤ m := by omega
        simp [ev, tst, evs, exs, ex, runFn, Lib.counters.fn_is_whole, Lib.counters.b_is_whole, optD, h1, h1', h2, h2']
/-- is_whole as a call, of whole numbers -/
theorem c_is_whole (hP : P Lib.counters.f_is_whole = some Lib.counters.fn_is_whole) (k : Nat) (x least : Int) (h : Hp) : callV (sem P (k + 1)) Lib.counters.f_is_whole [.val (.int x), .val (.int least), .val .non] h = .ok (.val (.bl (decide (least ≤ x)))) h := by
  refine call_val rfl rfl (hc := []) ?_ rfl
  have := s_is_whole hP k x least none []
  simpa [optD] using this
theorem c_is_whole2 (hP : P Lib.counters.f_is_whole = some Lib.counters.fn_is_whole) (k : Nat) (x least m : Int) (h : Hp) : callV (sem P (k + 1)) Lib.counters.f_is_whole [.val (.int x), .val (.int least), .val (.int m)] h = .ok (.val (.bl (decide (least ≤ x) && decide (x ≤ m)))) h := by
  refine call_val rfl rfl (hc := []) ?_ rfl
  exact s_is_whole hP k x least (some m) []
end
/-- a question as a value -/
def qD (q : PL.Q) : D := .tup [.int q.a, .int q.m, .int q.l, .int q.u]
@[simp] theorem qD_free (q : PL.Q) : (qD q).free = true := rfl
/-- the defs of ladders stand -/
structure PLad0 (P : Nat → Option Fn) : Prop where
  times : P Lib.ladders.f_least_times = some Lib.ladders.fn_least_times
  plain : P Lib.ladders.f_is_plain = some Lib.ladders.fn_is_plain
  behind : P Lib.ladders.f_behind = some Lib.ladders.fn_behind
  lad : P Lib.ladders.f_ladder_in = some Lib.ladders.fn_ladder_in
  ans : P Lib.ladders.f_answer_of = some Lib.ladders.fn_answer_of
structure PLad (P : Nat → Option Fn) : Prop extends PLad0 P where
  whole : P Lib.counters.f_is_whole = some Lib.counters.fn_is_whole
  isq : P Lib.ladders.f_is_question = some Lib.ladders.fn_is_question
  need : P Lib.ladders.f_need_question = some Lib.ladders.fn_need_question
/-- a great question -/
structure Big (q : PL.Q) : Prop where
  ok : q.ok
  b : q.m < 2 ^ 200
section
variable {P : Nat → Option Fn} (S : PLad P)
include S
theorem s_is_question (k : Nat) (q : PL.Q) (ok : q.ok) (h : Hp) : sem P (k + 2) Lib.ladders.f_is_question [qD q] h = .ok (.val (.bl true)) h := by
  rw [sem_succ S.isq]
  have w1 := fun x l h => c_is_whole (P := P) S.whole k x l h
  have w2 := fun x l m h => c_is_whole2 (P := P) S.whole k x l m h
  obtain ⟨h1, h2, h3, h4, h5⟩ := ok
  have e1 : (1 : Int) ≤ q.m := by omega
  have e2 : q.a ≤ q.m - 1 := by omega
  have e3 : q.l ≤ q.m - 1 := by omega
  have e4 : q.u ≤ q.m - 1 := by omega
  simp [ev, tst, evs, exs, ex, runFn, Lib.ladders.fn_is_question, Lib.ladders.b_is_question, qD, tyIs, b1V, lenOf, idxV, atI, ixN, w1, w2, e1, e2, e3, e4, h1, h3, h4]
theorem s_need_question (k : Nat) (q : PL.Q) (ok : q.ok) (h : Hp) : sem P (k + 3) Lib.ladders.f_need_question [qD q] h = .ok (.val (qD q)) h := by
  rw [sem_succ S.need]
  have c : ∀ h, callV (sem P (k + 2)) Lib.ladders.f_is_question [.val (qD q)] h = .ok (.val (.bl true)) h := fun h => call_val rfl rfl (s_is_question S k q ok []) rfl
  simp [ev, tst, evs, exs, ex, runFn, Lib.ladders.fn_need_question, Lib.ladders.b_need_question, c]
end
section
variable {P : Nat → Option Fn} (S : PLad0 P)
include S
theorem c_times (k : Nat) (a l : Int) (a0 : 0 < a) (ab : a < 2 ^ 200) (h : Hp) : callV (sem P (k + 1)) Lib.ladders.f_least_times [.val (.int a), .val (.int l)] h = .ok (.val (.int (PL.up a l))) h := by
  refine call_val rfl rfl (hc := []) ?_ rfl
  rw [sem_succ S.times]
  have d : divOk a = true := divOk_of 200 a0 (nat_lt (by omega) ab) (by omega)
  simp [ev, tst, evs, exs, ex, runFn, Lib.ladders.fn_least_times, Lib.ladders.b_least_times, d, PL.up]
theorem up_big {a l : Int} (a0 : 0 < a) (l0 : 0 ≤ l) (lb : l < 2 ^ 400) (ab : a < 2 ^ 200) : 0 ≤ PL.up a l ∧ PL.up a l < 2 ^ 401 := by
  obtain ⟨u1, u2⟩ := PL.up_spec (l := l) a0
  have u0 := PL.up_nonneg a0 l0
  have u3 : PL.up a l * 1 ≤ PL.up a l * a := Int.mul_le_mul_of_nonneg_left (by omega) u0
  exact ⟨u0, by omega⟩
theorem s_is_plain (k : Nat) (q : PL.Q) (B : Big q) (h : Hp) : sem P (k + 2) Lib.ladders.f_is_plain [qD q] h = .ok (.val (.bl (decide (PL.plain q)))) h := by
  rw [sem_succ S.plain]
  have ok := B.ok
  have b := B.b
  have a0 := ok.a0
  have am := ok.am
  have lu := ok.lu
  have um := ok.um
  have l0 := ok.l0
  by_cases hl : q.l = 0
  · have p : PL.plain q := .inl hl
    simp [ev, tst, evs, exs, ex, runFn, Lib.ladders.fn_is_plain, Lib.ladders.b_is_plain, qD, bindTg, hl, p]
  · by_cases ha : q.a = 0
    · have p : PL.plain q := .inr (.inl ha)
      simp [ev, tst, evs, exs, ex, runFn, Lib.ladders.fn_is_plain, Lib.ladders.b_is_plain, qD, bindTg, hl, ha, p]
    · have c := fun h => c_times S k q.a q.l (by omega) (by omega) h
      obtain ⟨u0, u1⟩ := up_big S (a := q.a) (l := q.l) (by omega) l0 (by omega) (by omega)
      have m : mulOk (PL.up q.a q.l) q.a = true := mulOk_of 401 200 (nat_lt u0 u1) (nat_lt a0 (by omega)) (by omega)
      by_cases hu : q.u < PL.up q.a q.l * q.a
      · have p : ¬ PL.plain q := fun z => by
          rcases z with z | z | z
          · exact hl z
          · exact ha z
          · omega
        simp [ev, tst, evs, exs, ex, runFn, Lib.ladders.fn_is_plain, Lib.ladders.b_is_plain, qD, bindTg, hl, ha, c, m, hu, p]
      · have p : PL.plain q := .inr (.inr (by omega))
        simp [ev, tst, evs, exs, ex, runFn, Lib.ladders.fn_is_plain, Lib.ladders.b_is_plain, qD, bindTg, hl, ha, c, m, hu, p]
theorem s_behind (k : Nat) (q : PL.Q) (a0 : 0 < q.a) (h : Hp) : sem P (k + 1) Lib.ladders.f_behind [qD q] h = .ok (.val (qD (PL.nxt q))) h := by
  rw [sem_succ S.behind]
  simp [ev, tst, evs, exs, ex, runFn, Lib.ladders.fn_behind, Lib.ladders.b_behind, qD, bindTg, a0, PL.nxt, boxAll, boxOne]
end
/-! ### the ladder -/
theorem frees_q (r : List PL.Q) : D.frees (r.map qD) = true := by
  induction r with
  | nil => rfl
  | cons q r ih => simp only [List.map_cons, D.frees, qD_free, ih, Bool.and_self]
theorem idx_last {h : Hp} {n : Nat} {xs : List D} {d : D} (e : h[n]? = some (.lst (xs ++ [d]))) : idxV h (.val (.ref n)) (.val (.int (-1))) = .ok (.val d) h := by
  have : ((xs.length : Int) + 1 - 1).toNat = xs.length := by omega
  have h2 : -((xs.length : Int) + 1) ≤ -1 := by omega
  have h3 : (-1 + ((xs.length : Int) + 1)).toNat = xs.length := by omega
  simp [idxV, objOf, e, idxO, atI, ixN, h2, h3]
theorem set_same {α : Type} {h : List α} {n : Nat} {o : α} (e : h[n]? = some o) : h.set n o = h := by
  apply List.ext_getElem?
  intro i
  by_cases hi : n = i
  · subst hi
    rw [List.getElem?_set_self (List.getElem?_eq_some_iff.mp e).1, e]
  · rw [List.getElem?_set_ne hi]
def ldT : E := .not (.call Lib.ladders.f_is_plain (.cons (.idx (.var 1) (.neg (.c (.int 1)))) .nil))
def ldW : Ss := .cons (.ex (.mt .append (.var 1) (.cons (.call Lib.ladders.f_behind (.cons (.idx (.var 1) (.neg (.c (.int 1)))) .nil)) .nil))) .nil
section
variable {P : Nat → Option Fn} (S : PLad0 P)
include S
theorem lad_loop (k : Nat) (x : D) (n : Nat) : ∀ {q : PL.Q} {r : List PL.Q}, PL.Lad q r → Big q → ∀ (pre : List PL.Q) (h : Hp) (f : Nat), h[n]? = some (.lst ((pre ++ [q]).map qD)) → (pre ++ r).length ≤ 100000 → r.length ≤ f →
    whileL (tst (sem P (k + 2)) ldT) (exs (sem P (k + 2)) ldW) f [some x, some (.ref n)] h = .nx [some x, some (.ref n)] (h.set n (.lst ((pre ++ r).map qD))) := by
  intro q r hl
  induction hl with
  | stop p =>
    rename_i q
    intro B pre h f e hz hf
    have c : ∀ h, callV (sem P (k + 2)) Lib.ladders.f_is_plain [.val (qD q)] h = .ok (.val (.bl true)) h := fun h => call_val (hc := []) rfl rfl (by rw [s_is_plain S k q B []]; simp [p]) rfl
    have i := idx_last (d := qD q) (xs := pre.map qD) (by simpa using e)
    match f, hf with
    | f + 1, _ =>
      have t : tst (sem P (k + 2)) ldT [some x, some (.ref n)] h = .ok false h := by simp [ldT, ev, tst, evs, i, c]
      simp only [whileL, t]
      rw [set_same e]
  | step p hl ih =>
    rename_i q r
    intro B pre h f e hz hf
    have c : ∀ h, callV (sem P (k + 2)) Lib.ladders.f_is_plain [.val (qD q)] h = .ok (.val (.bl false)) h := fun h => call_val (hc := []) rfl rfl (by rw [s_is_plain S k q B []]; simp [p]) rfl
    have g := PL.gap B.ok p
    have c2 : ∀ h, callV (sem P (k + 2)) Lib.ladders.f_behind [.val (qD q)] h = .ok (.val (qD (PL.nxt q))) h := fun h => call_val rfl rfl (s_behind S (k + 1) q g.1 []) rfl
    have i := idx_last (d := qD q) (xs := pre.map qD) (by simpa using e)
    match f, hf with
    | f + 1, hf =>
      have t : tst (sem P (k + 2)) ldT [some x, some (.ref n)] h = .ok true h := by simp [ldT, ev, tst, evs, i, c]
      have hn : n < h.length := (List.getElem?_eq_some_iff.mp e).1
      have z : pre.length + 1 < lim := by simp at hz; simp only [lim]; omega
      have b : exs (sem P (k + 2)) ldW [some x, some (.ref n)] h = .nx [some x, some (.ref n)] (h.set n (.lst ((pre ++ [q] ++ [PL.nxt q]).map qD))) := by
        simp [ldW, ev, tst, evs, exs, ex, i, c2, recv, e, lstIn, mtV, boxOne, z]
      simp only [whileL, t, b]
      have am := B.ok.am
      have b' : Big (PL.nxt q) := ⟨(PL.nxt_ok B.ok p).1, by have := B.b; simp only [PL.nxt]; omega⟩
      rw [ih b' (pre ++ [q]) (h.set n (.lst ((pre ++ [q] ++ [PL.nxt q]).map qD))) f (by rw [List.getElem?_set_self hn]) (by simpa using hz) (by simp at hf; omega)]
      simp
theorem s_ladder_in (k : Nat) {q : PL.Q} {r : List PL.Q} (hl : PL.Lad q r) (B : Big q) : ∃ hc : Hp, sem P (k + 3) Lib.ladders.f_ladder_in [qD q] [] = .ok (.val (.ref 0)) hc ∧ hc[0]? = some (.lst (r.map qD)) := by
  rw [sem_succ S.lad]
  have len : r.length ≤ 1001 := by
    have := hl.len B.ok (d := 200) (by have := B.b; have : (2 : Int) ^ 200 ≤ 10 ^ 200 := by decide
                                       omega)
    omega
  have w := lad_loop S k (qD q) 0 hl B [] [.lst [qD q]] fuel rfl (by simp; omega) (by simp only [fuel]; omega)
  have w' : ex (sem P (k + 2)) (.whl ldT ldW) [some (qD q), some (.ref 0)] [.lst [qD q]] = .nx [some (qD q), some (.ref 0)] [.lst (r.map qD)] := by
    simp only [ex]
    rw [w]
    rfl
  have eb : Lib.ladders.b_ladder_in = .cons (.asg 1 (.lst (.cons (.var 0) .nil))) (.cons (.whl ldT ldW) (.cons (.ret (.var 1)) .nil)) := rfl
  refine ⟨[.lst (r.map qD)], ?_, rfl⟩
  have e1 : ex (sem P (k + 2)) (.asg 1 (.lst (.cons (.var 0) .nil))) [some (qD q), none] [] = .nx [some (qD q), some (.ref 0)] [.lst [qD q]] := by
    simp [ev, tst, evs, ex, boxOne, boxAll]
  have e2 : ex (sem P (k + 2)) (.ret (.var 1)) [some (qD q), some (.ref 0)] [.lst (r.map qD)] = .rt (.val (.ref 0)) [.lst (r.map qD)] := by
    simp [ev, ex]
  show runFn _ ⟨1, 2, Lib.ladders.b_ladder_in⟩ _ _ = _
  have er : exs (sem P (k + 2)) Lib.ladders.b_ladder_in [some (qD q), none] [] = .rt (.val (.ref 0)) [.lst (r.map qD)] := by
    rw [eb]
    simp only [exs, e1, w', e2]
  simp only [runFn, List.length_cons, List.length_nil, decide_true, List.map_cons, List.map_nil]
  show (match exs (sem P (k + 2)) Lib.ladders.b_ladder_in [some (qD q), none] [] with | .nx _ h1 => _ | .rt r h1 => _ | .exc c es _ h1 => _ | _ => _) = _
  rw [er]
theorem c_ladder_in (k : Nat) {q : PL.Q} {r : List PL.Q} (hl : PL.Lad q r) (B : Big q) (h : Hp) : callV (sem P (k + 3)) Lib.ladders.f_ladder_in [.val (qD q)] h = .ok (.new (.lst (r.map qD))) h := by
  obtain ⟨hc, e1, e2⟩ := s_ladder_in S k hl B
  exact call_obj rfl rfl e1 e2 (frees_q r)
/-! ### the answer -/
omit S in
theorem ansR_last : ∀ (r : List PL.Q) (q : PL.Q), r.getLast? = some q → PL.base q = none → PL.ansR r = none
  | [], q, e, _ => by cases e
  | [x], q, e, h => by simp at e; subst e; exact h
  | x :: y :: r, q, e, h => by
    have := ansR_last (y :: r) q (by simpa using e) h
    show (PL.ansR (y :: r)).map _ = none
    rw [this]
    rfl
def anB : Ss := .cons (.asg 1 (.call Lib.ladders.f_least_times (.cons (.var 2) (.cons (.bin .add (.var 4) (.bin .mul (.var 3) (.var 1))) .nil)))) .nil
theorem an_step (k : Nat) (x : D) (h : Hp) (q : PL.Q) (B : Big q) (a0 : 0 < q.a) (f : Int) (f0 : 0 ≤ f) (fb : f < 2 ^ 200) : exs (sem P (k + 1)) anB [some x, some (.int f), some (.int q.a), some (.int q.m), some (.int q.l), some (.int q.u)] h = .nx [some x, some (.int (PL.up q.a (q.l + q.m * f))), some (.int q.a), some (.int q.m), some (.int q.l), some (.int q.u)] h := by
  have b := B.b
  have am := B.ok.am
  have m : mulOk q.m f = true := mulOk_of 200 200 (nat_lt (by omega) b) (nat_lt f0 fb) (by omega)
  have c := fun h => c_times S k q.a (q.l + q.m * f) a0 (by omega) h
  simp [anB, ev, tst, evs, exs, ex, m, c, boxOne]
theorem an_loop (k : Nat) (x : D) (h : Hp) : ∀ {q : PL.Q} {r : List PL.Q}, PL.Lad q r → Big q → ∀ (e : PL.Q) (f : Int), r.getLast? = some e → PL.base e = some f → ∃ t, PL.ansR r = some t ∧ ∀ (ys : List D) (a b c d : Option D), ∃ a' b' c' d',
    forL (fun d ρ => bindTg ρ (.many [2, 3, 4, 5]) d) [] (exs (sem P (k + 1)) anB) ((r.dropLast.reverse).map qD ++ ys) [some x, some (.int f), a, b, c, d] h = forL (fun d ρ => bindTg ρ (.many [2, 3, 4, 5]) d) [] (exs (sem P (k + 1)) anB) ys [some x, some (.int t), a', b', c', d'] h := by
  intro q r hl
  induction hl with
  | stop p =>
    rename_i q
    intro B e f el eb
    simp at el
    subst el
    exact ⟨f, eb, fun ys a b c d => ⟨a, b, c, d, rfl⟩⟩
  | step p hl ih =>
    rename_i q r
    intro B e f el eb
    have am := B.ok.am
    have g := PL.gap B.ok p
    have b' : Big (PL.nxt q) := ⟨(PL.nxt_ok B.ok p).1, by have := B.b; simp only [PL.nxt]; omega⟩
    cases r with
    | nil => exact absurd rfl hl.ne
    | cons y r =>
      obtain ⟨t, et, lp⟩ := ih b' e f (by simpa using el) eb
      have ia := hl.ans b'.ok
      rw [et] at ia
      have t0 := ia.1
      have tl := PL.ans_lt (by have := b'.ok.am; have := b'.ok.a0; omega) ia
      have bb := b'.b
      refine ⟨PL.up q.a (q.l + q.m * t), ?_, fun ys a b c d => ?_⟩
      · show (PL.ansR (y :: r)).map _ = _
        rw [et]
        rfl
      · obtain ⟨a', b2, c', d', e1⟩ := lp (qD q :: ys) a b c d
        have el2 : ((q :: y :: r).dropLast.reverse).map qD ++ ys = ((y :: r).dropLast.reverse).map qD ++ (qD q :: ys) := by simp
        rw [el2, e1]
        refine ⟨some (.int q.a), some (.int q.m), some (.int q.l), some (.int q.u), ?_⟩
        have bt : bindTg [some x, some (D.int t), a', b2, c', d'] (.many [2, 3, 4, 5]) (qD q) = some [some x, some (.int t), some (.int q.a), some (.int q.m), some (.int q.l), some (.int q.u)] := by simp [bindTg, qD]
        have st := an_step S k x h q B g.1 t t0 (by omega)
        simp only [forL, same, bt, st]
theorem s_answer_of (k : Nat) {q : PL.Q} {r : List PL.Q} (hl : PL.Lad q r) (B : Big q) : sem P (k + 2) Lib.ladders.f_answer_of [.ref 0] [.lst (r.map qD)] = .ok (.val (optD (PL.ansR r))) [.lst (r.map qD)] := by
  rw [sem_succ S.ans]
  obtain ⟨e, el⟩ : ∃ e, r.getLast? = some e := by
    cases hr : r.getLast? with
    | none => exact absurd (List.getLast?_eq_none_iff.mp hr) hl.ne
    | some e => exact ⟨e, rfl⟩
  obtain ⟨ini, er⟩ : ∃ ini, r = ini ++ [e] := List.getLast?_eq_some_iff.mp el
  have i : idxV [O.lst (r.map qD)] (.val (.ref 0)) (.val (.int (-1))) = .ok (.val (qD e)) [O.lst (r.map qD)] := idx_last (xs := ini.map qD) (by rw [er]; simp)
  obtain ⟨oke, le⟩ := hl.all B.ok e (List.mem_of_getLast? el)
  have bb := B.b
  have eb : Lib.ladders.b_answer_of = .cons (.asgT [2, 3, 4, 5] (.idx (.var 0) (.neg (.c (.int 1))))) (.cons (.ife (.and (.cmp .gt (.var 4) (.c (.int 0))) (.cmp .eq (.var 2) (.c (.int 0)))) (.cons (.ret (.c .non)) .nil) .nil) (.cons (.asg 1 (.ife (.cmp .gt (.var 4) (.c (.int 0))) (.call Lib.ladders.f_least_times (.cons (.var 2) (.cons (.var 4) .nil))) (.c (.int 0)))) (.cons (.for_ (.many [2, 3, 4, 5]) (.seq (.rev2 (.var 0))) anB) (.cons (.ret (.var 1)) .nil)))) := rfl
  have l0 := oke.l0
  have a0 := oke.a0
  have am := oke.am
  have e1 : ex (sem P (k + 1)) (.asgT [2, 3, 4, 5] (.idx (.var 0) (.neg (.c (.int 1))))) [some (.ref 0), none, none, none, none, none] [.lst (r.map qD)] = .nx [some (.ref 0), none, some (.int e.a), some (.int e.m), some (.int e.l), some (.int e.u)] [.lst (r.map qD)] := by
    simp [ex, ev, i, bindTg, qD]
  show runFn _ ⟨1, 6, Lib.ladders.b_answer_of⟩ _ _ = _
  cases hb : PL.base e with
  | none =>
    have ea := ansR_last r e el hb
    have z : e.l ≠ 0 ∧ e.a = 0 := by
      unfold PL.base at hb
      split at hb
      · cases hb
      · split at hb
        · exact ⟨by assumption, by assumption⟩
        · cases hb
    have z1 : 0 < e.l := by omega
    have e2 : ex (sem P (k + 1)) (.ife (.and (.cmp .gt (.var 4) (.c (.int 0))) (.cmp .eq (.var 2) (.c (.int 0)))) (.cons (.ret (.c .non)) .nil) .nil) [some (.ref 0), none, some (.int e.a), some (.int e.m), some (.int e.l), some (.int e.u)] [.lst (r.map qD)] = .rt (.val .non) [.lst (r.map qD)] := by
      simp [ex, ev, tst, exs, z1, z.2]
    have er : exs (sem P (k + 1)) Lib.ladders.b_answer_of [some (.ref 0), none, none, none, none, none] [.lst (r.map qD)] = .rt (.val .non) [.lst (r.map qD)] := by
      rw [eb]
      simp only [exs, e1, e2]
    rw [ea]
    simp only [runFn, List.length_cons, List.length_nil, decide_true, List.map_cons, List.map_nil]
    show (match exs (sem P (k + 1)) Lib.ladders.b_answer_of [some (.ref 0), none, none, none, none, none] [.lst (r.map qD)] with | .nx _ h1 => _ | .rt r h1 => _ | .exc c es _ h1 => _ | _ => _) = _
    rw [er]
    rfl
  | some f =>
    obtain ⟨t, et, lp⟩ := an_loop S k (.ref 0) [.lst (r.map qD)] hl B e f el hb
    obtain ⟨a', b', c', d', e5⟩ := lp [] (some (.int e.a)) (some (.int e.m)) (some (.int e.l)) (some (.int e.u))
    have z : e.l = 0 ∨ e.a ≠ 0 := by
      unfold PL.base at hb
      split at hb
      · exact .inl (by assumption)
      · split at hb
        · cases hb
        · exact .inr (by assumption)
    have e2 : ex (sem P (k + 1)) (.ife (.and (.cmp .gt (.var 4) (.c (.int 0))) (.cmp .eq (.var 2) (.c (.int 0)))) (.cons (.ret (.c .non)) .nil) .nil) [some (.ref 0), none, some (.int e.a), some (.int e.m), some (.int e.l), some (.int e.u)] [.lst (r.map qD)] = .nx [some (.ref 0), none, some (.int e.a), some (.int e.m), some (.int e.l), some (.int e.u)] [.lst (r.map qD)] := by
      by_cases z1 : 0 < e.l
      · have z2 : e.a ≠ 0 := by
          rcases z with z | z
          · omega
          · exact z
        simp [ex, ev, tst, exs, z1, z2]
      · simp [ex, ev, tst, exs, z1]
    have e3 : ex (sem P (k + 1)) (.asg 1 (.ife (.cmp .gt (.var 4) (.c (.int 0))) (.call Lib.ladders.f_least_times (.cons (.var 2) (.cons (.var 4) .nil))) (.c (.int 0)))) [some (.ref 0), none, some (.int e.a), some (.int e.m), some (.int e.l), some (.int e.u)] [.lst (r.map qD)] = .nx [some (.ref 0), some (.int f), some (.int e.a), some (.int e.m), some (.int e.l), some (.int e.u)] [.lst (r.map qD)] := by
      by_cases z1 : 0 < e.l
      · have z2 : e.a ≠ 0 := by
          rcases z with z | z
          · omega
          · exact z
        have c := fun h => c_times S k e.a e.l (by omega) (by omega) h
        have hf : f = PL.up e.a e.l := by
          unfold PL.base at hb
          rw [if_neg (by omega), if_neg z2] at hb
          exact (Option.some.inj hb).symm
        simp [ex, ev, tst, evs, z1, c, hf, boxOne]
      · have hf : f = 0 := by
          unfold PL.base at hb
          rw [if_pos (by omega)] at hb
          exact (Option.some.inj hb).symm
        simp [ex, ev, tst, evs, z1, hf, boxOne]
    have e4 : ex (sem P (k + 1)) (.for_ (.many [2, 3, 4, 5]) (.seq (.rev2 (.var 0))) anB) [some (.ref 0), some (.int f), some (.int e.a), some (.int e.m), some (.int e.l), some (.int e.u)] [.lst (r.map qD)] = .nx [some (.ref 0), some (.int t), a', b', c', d'] [.lst (r.map qD)] := by
      have ei : evi (sem P (k + 1)) (.seq (.rev2 (.var 0))) [some (.ref 0), some (.int f), some (.int e.a), some (.int e.m), some (.int e.l), some (.int e.u)] [.lst (r.map qD)] = .ok ((r.dropLast.reverse).map qD, []) [.lst (r.map qD)] := by
        simp [evi, ev, lstOf, objOf, lstIn, itemsOf, watch, List.map_dropLast]
      simp only [ex, ei, r_st]
      rw [List.append_nil] at e5
      rw [e5]
      simp only [forL, same]
    have er : exs (sem P (k + 1)) Lib.ladders.b_answer_of [some (.ref 0), none, none, none, none, none] [.lst (r.map qD)] = .rt (.val (.int t)) [.lst (r.map qD)] := by
      rw [eb]
      simp only [exs, e1, e2, e3, e4]
      simp [ex, ev]
    rw [et]
    simp only [runFn, List.length_cons, List.length_nil, decide_true, List.map_cons, List.map_nil]
    show (match exs (sem P (k + 1)) Lib.ladders.b_answer_of [some (.ref 0), none, none, none, none, none] [.lst (r.map qD)] with | .nx _ h1 => _ | .rt r h1 => _ | .exc c es _ h1 => _ | _ => _) = _
    rw [er]
    rfl
omit S in
theorem optD_free (o : Option Int) : (optD o).free = true := by cases o <;> rfl
theorem c_answer_of (k : Nat) {q : PL.Q} {r : List PL.Q} (hl : PL.Lad q r) (B : Big q) (h : Hp) : callV (sem P (k + 2)) Lib.ladders.f_answer_of [.new (.lst (r.map qD))] h = .ok (.val (optD (PL.ansR r))) h :=
  call_val (by simp [Rv.free, O.free, frees_q]) rfl (s_answer_of S k hl B) (optD_free _)
end
section
variable {P : Nat → Option Fn} (S : PLad P)
include S
theorem c_need_question (k : Nat) (q : PL.Q) (ok : q.ok) (h : Hp) : callV (sem P (k + 3)) Lib.ladders.f_need_question [.val (qD q)] h = .ok (.val (qD q)) h :=
  call_val rfl rfl (s_need_question S k q ok []) rfl
theorem s_answer (hA : P Lib.ladders.f_answer = some Lib.ladders.fn_answer) (k : Nat) {q : PL.Q} {r : List PL.Q} (hl : PL.Lad q r) (B : Big q) (h : Hp) : sem P (k + 4) Lib.ladders.f_answer [qD q] h = .ok (.val (optD (PL.ansR r))) h := by
  rw [sem_succ hA]
  have c1 := fun h => c_need_question S k q B.ok h
  have c2 := fun h => c_ladder_in S.toPLad0 k hl B h
  have c3 := fun h => c_answer_of S.toPLad0 (k + 1) hl B h
  simp [Lib.ladders.fn_answer, Lib.ladders.b_answer, runFn, exs, ex, ev, evs, c1, c2, c3]
theorem c_answer (hA : P Lib.ladders.f_answer = some Lib.ladders.fn_answer) (k : Nat) {q : PL.Q} {r : List PL.Q} (hl : PL.Lad q r) (B : Big q) (h : Hp) : callV (sem P (k + 4)) Lib.ladders.f_answer [.val (qD q)] h = .ok (.val (optD (PL.ansR r))) h :=
  call_val rfl rfl (s_answer S hA k hl B []) (optD_free _)
theorem s_ladder (hA : P Lib.ladders.f_ladder = some Lib.ladders.fn_ladder) (k : Nat) {q : PL.Q} {r : List PL.Q} (hl : PL.Lad q r) (B : Big q) (h : Hp) : sem P (k + 4) Lib.ladders.f_ladder [qD q] h = .ok (.val (.tup (r.map qD))) h := by
  rw [sem_succ hA]
  have c1 := fun h => c_need_question S k q B.ok h
  have c2 := fun h => c_ladder_in S.toPLad0 k hl B h
  simp [Lib.ladders.fn_ladder, Lib.ladders.b_ladder, runFn, exs, ex, ev, evs, c1, c2, b1V, lstOf, objOf, lstIn]
theorem c_ladder (hA : P Lib.ladders.f_ladder = some Lib.ladders.fn_ladder) (k : Nat) {q : PL.Q} {r : List PL.Q} (hl : PL.Lad q r) (B : Big q) (h : Hp) : callV (sem P (k + 4)) Lib.ladders.f_ladder [.val (qD q)] h = .ok (.val (.tup (r.map qD))) h :=
  call_val rfl rfl (s_ladder S hA k hl B []) (by simp only [D.free]; exact frees_q r)
end
end G

/-! LG: the shape of laws: the beginning, turns with draws. -/
namespace G
theorem ex_for {C : Nat → List D → Hp → R Rv} {tg : Tg} {it : It} {b : Ss} {ρ : Env} {h h1 : Hp} {p : List D × List (Nat × List D)} (e : evi C it ρ h = .ok p h1) : ex C (.for_ tg it b) ρ h = forL (fun d ρ => bindTg ρ tg d) p.2 (exs C b) p.1 ρ h1 := by
  simp only [ex, e, r_st]
theorem r1_ok {C : Nat → List D → Hp → R Rv} {a : E} {ρ : Env} {h h1 : Hp} {j : Int} (e : ev C a ρ h = .ok (.val (.int j)) h1) (sj : small j = true) : evi C (.r1 a) ρ h = .ok (rangeL 0 1 j.toNat, []) h1 := by
  simp only [evi, e, r_bind, sj, r_when]
theorem runFn_eq {C : Nat → List D → Hp → R Rv} {np ns : Nat} {b : Ss} {ds : List D} {h : Hp} {ρ : Env} {r : Rv} {h1 : Hp} (e : exs C b ρ h = .rt r h1) (hl : ds.length = np) (hρ : ds.map some ++ List.replicate (ns - np) none = ρ) : runFn C ⟨np, ns, b⟩ ds h = .ok r h1 := by
  subst hρ
  simp only [runFn, hl, decide_true, e]
theorem runFn_nx {C : Nat → List D → Hp → R Rv} {np ns : Nat} {b : Ss} {ds : List D} {h : Hp} {ρ ρ' : Env} {h1 : Hp} (e : exs C b ρ h = .nx ρ' h1) (hl : ds.length = np) (hρ : ds.map some ++ List.replicate (ns - np) none = ρ) : runFn C ⟨np, ns, b⟩ ds h = .ok (.val .non) h1 := by
  subst hρ
  simp only [runFn, hl, decide_true, e]
theorem e_repr (h : Hp) (x : Rv) : b1V h .repr x = opt h ((reprV h x).map fun s => .val (.str s)) := rfl
theorem e_len (h : Hp) (x : Rv) : b1V h .len x = opt h ((lenOf h x).bind fun n => if n ≤ lim then some (.val (.int n)) else none) := rfl
theorem small_of {j : Int} (h0 : 0 ≤ j) (h1 : j < 2 ^ 62) : small j = true := by
  simp only [small, Bool.and_eq_true, decide_eq_true_eq]
  omega
/-! ### draws -/
section
variable {P : Nat → Option Fn} {fnx fbg : Nat}
theorem draw (hN : P fnx = some ⟨2, 6, nextB⟩) (k : Nat) {h : Hp} {m c p : Nat} {K total : Int} (d : Dr h m c p K) (ht : 0 < total) (hb : total < 2 ^ 200) (hK : K < 2 ^ 60) :
    ∃ (r : Int) (h' : Hp) (p' : Nat), callV (sem P (k + 1)) fnx [.val (.ref m), .val (.int total)] h = .ok (.val (.int r)) h' ∧ 0 ≤ r ∧ r < total ∧ Dr h' m c p' (K + 1) ∧ (p' = p ∨ h.length ≤ p') ∧ h.length ≤ h'.length ∧ ∀ i, i < h.length → i ≠ m → i ≠ p → h'[i]? = h[i]? := by
  obtain ⟨r, h', p', e, r0, r1, d', fr⟩ := next_ok (sem P k) d ht hb hK
  refine ⟨r, h', p', ?_, r0, r1, d', fr⟩
  have e1 : callV (sem P (k + 1)) fnx [.val (.ref m), .val (.int total)] h = sem P (k + 1) fnx [.ref m, .int total] h := rfl
  rw [e1, sem_succ hN]
  exact runFn_eq e rfl rfl
theorem frees_int (l : List Int) : D.frees (l.map .int) = true := by
  induction l with
  | nil => rfl
  | cons x r ih => simp only [List.map_cons, D.frees, D.free, ih, Bool.and_self]
theorem begun (hB : P fbg = some ⟨1, 2, begunB⟩) (k : Nat) {ns : List Int} (hl : ns.length ≤ 63) : callV (sem P (k + 1)) fbg [.val (.rol (ns.map .int))] [] = .ok (.new (drObj 0 1 0)) [O.lst (ns.map .int), O.lst ((ns.filter fun x => decide (1000000000000000000 ≤ x)).map .int)] := by
  have e : sem P (k + 1) fbg [.rol (ns.map .int)] [] = .ok (.new (drObj 0 1 0)) [O.lst (ns.map .int), O.lst ((ns.filter fun x => decide (1000000000000000000 ≤ x)).map .int)] := by
    rw [sem_succ hB]
    exact runFn_eq (begun_ok (sem P k) (h := []) hl) rfl rfl
  have f1 : ([Rv.val (.rol (ns.map .int))].all Rv.free) = true := by simp [Rv.free, D.free, frees_int]
  unfold callV
  rw [f1]
  simp only [boxAll, boxOne, e]
  have u : unbox [O.lst (ns.map .int), O.lst ((ns.filter fun x => decide (1000000000000000000 ≤ x)).map .int)] (.new (drObj 0 1 0)) = none := rfl
  rw [u]
end
theorem Dr.app {h : Hp} {m c p : Nat} {K : Int} (d : Dr h m c p K) (l : Hp) : Dr (h ++ l) m c p K := by
  obtain ⟨cells, left, a, e1, e2, e3, r⟩ := d.ex
  have k : ∀ {i : Nat} {o : O}, h[i]? = some o → (h ++ l)[i]? = some o := fun e => by rw [List.getElem?_append_left (List.getElem?_eq_some_iff.mp e).1]; exact e
  exact ⟨⟨cells, left, a, k e1, k e2, k e3, r⟩, d.cp, d.cm, d.pm⟩
theorem Dr.lt {h : Hp} {m c p : Nat} {K : Int} (d : Dr h m c p K) : m < h.length ∧ p < h.length := by
  obtain ⟨cells, left, a, e1, e2, e3, r⟩ := d.ex
  exact ⟨(List.getElem?_eq_some_iff.mp e1).1, (List.getElem?_eq_some_iff.mp e3).1⟩
/-- the heap with which a law begins -/
def h0 (ns : List Int) : Hp := [O.lst (ns.map .int), O.lst ((ns.filter fun x => decide (1000000000000000000 ≤ x)).map .int), drObj 0 1 0]
theorem h0_dr {ns : List Int} (hl : ns.length ≤ 63) : Dr (h0 ns) 2 0 1 0 := begun_dr (h := []) hl
/-- a loop whose turns draw -/
theorem for_draw {C : Nat → List D → Hp → R Rv} {W : Ss} {i m c : Nat} (Iv : Env → Prop) (B : Int) (b0 : 0 ≤ B)
    (H : ∀ (x : D) (ρ : Env) (h : Hp) (p : Nat) (K : Int), Iv ρ → Dr h m c p K → K < 2 ^ 40 → ∃ (ρ' : Env) (h' : Hp) (p' : Nat), exs C W (ρ.set i (some x)) h = .nx ρ' h' ∧ Iv ρ' ∧ Dr h' m c p' (K + B)) :
    ∀ (ds : List D) (ρ : Env) (h : Hp) (p : Nat) (K : Int), Iv ρ → Dr h m c p K → K + B * ds.length < 2 ^ 40 → ∃ (ρ' : Env) (h' : Hp) (p' : Nat), forL (fun d ρ => bindTg ρ (.one i) d) [] (exs C W) ds ρ h = .nx ρ' h' ∧ Iv ρ' ∧ Dr h' m c p' (K + B * ds.length)
  | [], ρ, h, p, K, v, d, hK => ⟨ρ, h, p, rfl, v, by simpa using d⟩
  | x :: ds, ρ, h, p, K, v, d, hK => by
    have hl : ((x :: ds).length : Int) = ds.length + 1 := by simp
    rw [hl, Int.mul_add, Int.mul_one] at hK
    have bn : 0 ≤ B * (ds.length : Int) := Int.mul_nonneg b0 (by omega)
    obtain ⟨ρ1, h1, p1, e1, v1, d1⟩ := H x ρ h p K v d (by omega)
    obtain ⟨ρ2, h2, p2, e2, v2, d2⟩ := for_draw Iv B b0 H ds ρ1 h1 p1 (K + B) v1 d1 (by omega)
    refine ⟨ρ2, h2, p2, ?_, v2, ?_⟩
    · rw [← e2]
      conv => lhs; unfold forL
      simp only [same, bindTg, e1]
    · rw [hl, Int.mul_add, Int.mul_one]
      rw [show K + (B * ↑ds.length + B) = K + B + B * ↑ds.length by omega]
      exact d2
/-- a law's beginning and its turns -/
theorem law_shape {P : Nat → Option Fn} {fbg k : Nat} (hB : P fbg = some ⟨1, 2, begunB⟩) {ns : List Int} (hl : ns.length ≤ 63) {n : Nat} {a b : Int} (a0 : 0 ≤ a) (a1 : a ≤ 1000) (b0 : 0 ≤ b) (b1 : b ≤ 1000) {W rest : Ss} (Iv : Env → Prop) (B : Int) (B0 : 0 ≤ B) (B1 : B ≤ 10000000)
    (hI : Iv (some (.rol (ns.map .int)) :: some (.ref 2) :: List.replicate n none))
    (H : ∀ (x : D) (ρ : Env) (h : Hp) (p : Nat) (K : Int), Iv ρ → Dr h 2 0 p K → K < 2 ^ 40 → ∃ (ρ' : Env) (h' : Hp) (p' : Nat), exs (sem P (k + 1)) W (ρ.set 2 (some x)) h = .nx ρ' h' ∧ Iv ρ' ∧ Dr h' 2 0 p' (K + B)) :
    ∃ (ρ' : Env) (h' : Hp) (p' : Nat) (K : Int), exs (sem P (k + 1)) (.cons (.asg 1 (.call fbg (.cons (.var 0) .nil))) (.cons (.for_ (.one 2) (.r1 (.bin .add (.c (.int a)) (.b2 .min (.b1 .len (.var 0)) (.c (.int b))))) W) rest)) (some (.rol (ns.map .int)) :: none :: List.replicate n none) [] = exs (sem P (k + 1)) rest ρ' h' ∧ Iv ρ' ∧ Dr h' 2 0 p' K ∧ K < 2 ^ 50 := by
  have nl : ns.length ≤ lim := by simp only [lim]; omega
  obtain ⟨N, eN, N0, N1⟩ : ∃ N : Int, (a + (if b < (ns.length : Nat) then b else ((ns.length : Nat) : Int))) = N ∧ 0 ≤ N ∧ N ≤ 2000 := by
    by_cases q : b < (ns.length : Nat)
    · exact ⟨_, by rw [if_pos q], by omega, by omega⟩
    · exact ⟨_, by rw [if_neg q], by omega, by omega⟩
  have cb := begun hB k hl
  have s1 : ex (sem P (k + 1)) (.asg 1 (.call fbg (.cons (.var 0) .nil))) (some (.rol (ns.map .int)) :: none :: List.replicate n none) [] = .nx (some (.rol (ns.map .int)) :: some (.ref 2) :: List.replicate n none) (h0 ns) := by
    simp only [ex, ev, evs, List.getElem?_cons_zero, r_bind, cb, r_st, boxOne]
    rfl
  have ln : ∀ h, b1V h .len (.val (.rol (ns.map .int))) = .ok (.val (.int (ns.length : Nat))) h := fun h => by simp [b1V, lenOf, nl]
  have ei : ev (sem P (k + 1)) (.bin .add (.c (.int a)) (.b2 .min (.b1 .len (.var 0)) (.c (.int b)))) (some (.rol (ns.map .int)) :: some (.ref 2) :: List.replicate n none) (h0 ns) = .ok (.val (.int N)) (h0 ns) := by
    rw [← eN]
    simp only [ev, List.getElem?_cons_zero, r_bind, ln, b2_mn, bin_add]
  have lN : ((rangeL 0 1 N.toNat).length : Int) = N := by rw [rangeL_length]; omega
  have bB : B * N ≤ 10000000 * 2000 := Int.le_trans (Int.mul_le_mul_of_nonneg_left N1 B0) (Int.mul_le_mul_of_nonneg_right B1 (by omega))
  obtain ⟨ρ', h', p', e, v, d⟩ := for_draw Iv B B0 H (rangeL 0 1 N.toNat) _ (h0 ns) 1 0 hI (h0_dr hl) (by rw [lN]; omega)
  refine ⟨ρ', h', p', _, ?_, v, d, by rw [lN]; omega⟩
  simp only [exs, s1]
  rw [ex_for (r1_ok ei (small_of N0 (by omega)))]
  simp only [e]
/-- the greatest common divisor as a sum of multiples -/
theorem bez : ∀ (a b : Nat), ∃ x y : Int, (a : Int) * x + (b : Int) * y = (Nat.gcd a b : Nat) := by
  intro a b
  induction a, b using Nat.gcd.induction with
  | H0 n => exact ⟨0, 1, by simp⟩
  | H1 m n hm ih =>
    obtain ⟨x, y, h⟩ := ih
    refine ⟨y - (n / m : Nat) * x, x, ?_⟩
    rw [Nat.gcd_rec, ← h]
    have e : (n : Int) = (m : Int) * ((n / m : Nat) : Int) + ((n % m : Nat) : Int) := by
      have := Nat.div_add_mod n m
      rw [← Int.natCast_mul, ← Int.natCast_add, this]
    rw [Int.mul_sub, ← Int.mul_assoc]
    have e2 : (n : Int) * x = (m : Int) * ((n / m : Nat) : Int) * x + ((n % m : Nat) : Int) * x := by
      conv => lhs; rw [e]
      rw [Int.add_mul]
    omega
/-! ### the greatest common divisor of laws and of the program -/
def gT : E := .cmp .ne (.var 1) (.c (.int 0))
def gW : Ss := .cons (.asgT [0, 1] (.tup (.cons (.var 1) (.cons (.bin .mod (.b1 .int (.var 0)) (.var 1)) .nil)))) .nil
def gcdB : Ss := .cons (.whl gT gW) (.cons (.ret (.var 0)) .nil)
theorem g_loop (C : Nat → List D → Hp → R Rv) (h : Hp) : ∀ (j : Nat) (x y : Int) (n : Nat), 0 ≤ x → 0 ≤ y → y < 2 ^ j → 2 * j + 1 ≤ n → ∃ ρ, whileL (tst C gT) (exs C gW) n [some (.int x), some (.int y)] h = .nx ρ h ∧ ρ[0]? = some (some (.int (Nat.gcd x.toNat y.toNat : Nat))) := by
  have stop : ∀ (x : Int) (n : Nat), 0 ≤ x → ∃ ρ, whileL (tst C gT) (exs C gW) (n + 1) [some (.int x), some (.int 0)] h = .nx ρ h ∧ ρ[0]? = some (some (.int (Nat.gcd x.toNat (0 : Int).toNat : Nat))) := fun x n hx => by
    refine ⟨[some (.int x), some (.int 0)], ?_, by simp; omega⟩
    have : tst C gT [some (.int x), some (.int 0)] h = .ok false h := by simp [ev, tst, gT]
    simp only [whileL, this]
  have go : ∀ (x y : Int) (n : Nat), 0 ≤ x → 0 < y → whileL (tst C gT) (exs C gW) (n + 1) [some (.int x), some (.int y)] h = whileL (tst C gT) (exs C gW) n [some (.int y), some (.int (x % y))] h := fun x y n hx hy => by
    have t : tst C gT [some (.int x), some (.int y)] h = .ok true h := by
      have : ¬ y = 0 := by omega
      simp [ev, tst, gT, this]
    have s : exs C gW [some (.int x), some (.int y)] h = .nx [some (.int y), some (.int (x % y))] h := by simp [ev, tst, evs, exs, ex, boxOne, boxAll, bindTg, gW, hy]
    conv => lhs; unfold whileL
    rw [t]
    simp only [s]
  have gs : ∀ x y : Int, 0 ≤ x → 0 < y → Nat.gcd x.toNat y.toNat = Nat.gcd y.toNat (x % y).toNat := fun x y hx hy => by
    rw [Int.toNat_emod hx (by omega), Nat.gcd_comm, Nat.gcd_rec, Nat.gcd_comm]
  intro j
  induction j with
  | zero =>
    intro x y n hx hy hj hn
    have : y = 0 := by simp at hj; omega
    subst this
    match n, hn with
    | n + 1, _ => exact stop x n hx
  | succ j ih =>
    intro x y n hx hy hj hn
    match n, hn with
    | n + 2, hn =>
      by_cases hz : y = 0
      · subst hz; exact stop x (n + 1) hx
      · have yp : 0 < y := by omega
        have q0 := Int.emod_nonneg x (show y ≠ 0 by omega)
        have q1 := Int.emod_lt_of_pos x yp
        rw [go x y (n + 1) hx yp, gs x y hx yp]
        by_cases hz1 : x % y = 0
        · rw [hz1]; exact stop y n (by omega)
        · have zp : 0 < x % y := by omega
          have r0 := Int.emod_nonneg y (show x % y ≠ 0 by omega)
          have r1 := Int.emod_lt_of_pos y zp
          rw [go y (x % y) n (by omega) zp, gs y (x % y) (by omega) zp]
          refine ih (x % y) (y % (x % y)) n q0 r0 ?_ (by omega)
          have h1 : y % (x % y) ≤ y - x % y := by
            have q := Int.mul_ediv_add_emod y (x % y)
            have : 1 ≤ y / (x % y) := by
              rw [Int.le_ediv_iff_mul_le zp]
              omega
            have : (x % y) * 1 ≤ (x % y) * (y / (x % y)) := Int.mul_le_mul_of_nonneg_left this (by omega)
            omega
          have : (2 : Int) ^ (j + 1) = 2 ^ j * 2 := Int.pow_succ ..
          omega
theorem s_gcdB {C : Nat → List D → Hp → R Rv} {x y : Int} {h : Hp} (x0 : 0 ≤ x) (y0 : 0 ≤ y) (yB : y < 2 ^ 200) : exs C gcdB [some (.int x), some (.int y)] h = .rt (.val (.int (Nat.gcd x.toNat y.toNat : Nat))) h := by
  obtain ⟨ρ, w, e⟩ := g_loop C h 200 x y fuel x0 y0 yB (by simp only [fuel]; omega)
  have w' : ex C (.whl gT gW) [some (.int x), some (.int y)] h = .nx ρ h := by
    simp only [ex]
    exact w
  simp only [gcdB, exs, w']
  simp only [ex, ev, e, r_st]
theorem c_gcd {P : Nat → Option Fn} {fg : Nat} (hG : P fg = some ⟨2, 2, gcdB⟩) (k : Nat) {x y : Int} (x0 : 0 ≤ x) (y0 : 0 ≤ y) (yB : y < 2 ^ 200) (h : Hp) : callV (sem P (k + 1)) fg [.val (.int x), .val (.int y)] h = .ok (.val (.int (Nat.gcd x.toNat y.toNat : Nat))) h := by
  refine call_val rfl rfl (h0 := []) (hc := []) ?_ rfl
  rw [sem_succ hG]
  exact runFn_eq (s_gcdB x0 y0 yB) rfl rfl
end G

/-! LR: what repr and str give. -/
namespace G
theorem intS_eq (i : Int) : intS i = (toString i : String).toList.map Char.toNat := by
  unfold intS
  rw [PySem.Str.ofString_eq_toList]
theorem intS_nat (n : Nat) : intS (n : Int) = (Nat.toDigits 10 n).map Char.toNat := by
  rw [intS_eq]
  have e : toString ((n : Nat) : Int) = toString n := rfl
  rw [e, Nat.toString_eq_ofList_toDigits]
  simp
theorem intS_len {i : Int} (h0 : 0 ≤ i) : (intS i).length = (Nat.toDigits 10 i.toNat).length := by
  obtain ⟨n, rfl⟩ := Int.eq_ofNat_of_zero_le h0
  rw [intS_nat]
  simp
theorem intS_le {i : Int} {p : Nat} (hp : 0 < p) (h0 : 0 ≤ i) (h1 : i < 10 ^ p) : (intS i).length ≤ p := by
  rw [intS_len h0, Nat.length_toDigits_le_iff (by omega) hp]
  have : ((10 ^ p : Nat) : Int) = (10 : Int) ^ p := by simp
  omega
theorem intS_lt {i : Int} (h0 : 0 ≤ i) : i < 10 ^ (intS i).length := by
  have h := (Nat.length_toDigits_le_iff (b := 10) (n := i.toNat) (k := (Nat.toDigits 10 i.toNat).length) (by omega) Nat.length_toDigits_pos).mp (Nat.le_refl _)
  rw [intS_len h0]
  have : ((10 ^ (Nat.toDigits 10 i.toNat).length : Nat) : Int) = (10 : Int) ^ (Nat.toDigits 10 i.toNat).length := by simp
  omega
theorem repr_int {h : Hp} {i : Int} (h0 : 0 ≤ i) (h1 : i < 2 ^ 200) : reprV h (.val (.int i)) = some (intS i) := by
  show reprD h (.int i) = _
  have l := intS_le (i := i) (p := 200) (by omega) h0 (by have : (2 : Int) ^ 200 ≤ 10 ^ 200 := by decide
                                                          omega)
  have e1 : dok h 60 (.int i) = true := rfl
  have e2 : toP h 60 (.int i) = .int i := rfl
  have e3 : (PySem.PyData.int i).showable = true := by
    have := log2_le (nat_lt h0 h1)
    simp only [PySem.PyData.showable, decide_eq_true_eq]
    omega
  have e4 : (PySem.PyData.int i).shown.length ≤ lim := by
    have : (PySem.PyData.int i).shown.length = (intS i).length := by
      show (toString i : PySem.Str).cps.size = (toString i : PySem.Str).cps.toList.length
      simp
    rw [this]
    simp only [lim]
    omega
  unfold reprD
  rw [e1, e2, e3, Bool.true_and, Bool.true_and, if_pos (decide_eq_true e4)]
  rfl
def noneS : List Nat := [78, 111, 110, 101]
theorem repr_non {h : Hp} : reprV h (.val .non) = some noneS := by
  show reprD h .non = _
  have e : (PySem.PyData.none).shown.cps.toList = noneS := by decide +kernel
  have e4 : (PySem.PyData.none).shown.length ≤ lim := by decide +kernel
  have e1 : dok h 60 .non = true := rfl
  have e2 : toP h 60 .non = .none := rfl
  unfold reprD
  rw [e1, e2, Bool.true_and, if_pos (by simp [PySem.PyData.showable, e4]), e]
/-- a whole number or None -/
theorem repr_opt {h : Hp} {o : Option Int} (k : ∀ i, o = some i → 0 ≤ i ∧ i < 2 ^ 200) : ∃ s, ∀ h, reprV h (.val (optD o)) = some s := by
  cases o with
  | none => exact ⟨_, fun h => repr_non⟩
  | some i => exact ⟨_, fun h => repr_int (k i rfl).1 (k i rfl).2⟩
theorem str_len {h : Hp} {i : Int} (h0 : 0 ≤ i) (h1 : i < 2 ^ 200) : b1V h .str (.val (.int i)) = .ok (.val (.str (intS i))) h := by
  have := log2_le (nat_lt h0 h1)
  have e : decide (i.natAbs.log2 < 1920) = true := decide_eq_true (by omega)
  simp only [b1V, e, r_when]
end G

/-! LS: texts of nested data are short enough. -/
namespace G
open PySem
mutual
def wt : PyData → Nat
  | .none => 4
  | .bool _ => 5
  | .int _ => 202
  | .str x => 10 * x.length + 2
  | .list xs => wts xs + 2
  | .tuple xs => wts xs + 3
  | .dict _ => 0
def wts : List PyData → Nat
  | [] => 0
  | x :: r => wt x + 2 + wts r
end
mutual
def nice : PyData → Bool
  | .none => true
  | .bool _ => true
  | .int i => decide (i.natAbs < 2 ^ 200)
  | .str x => x.cps.toList.all fun c => decide (c < 55296)
  | .list xs => nices xs
  | .tuple xs => nices xs
  | .dict _ => false
def nices : List PyData → Bool
  | [] => true
  | x :: r => nice x && nices r
end
theorem intS_abs (i : Int) (h : i.natAbs < 2 ^ 200) : (intS i).length ≤ 201 := by
  have hp : (2 : Nat) ^ 200 ≤ 10 ^ 200 := by decide
  have key : ∀ n : Nat, n < 2 ^ 200 → (Nat.toDigits 10 n).length ≤ 200 := fun n hn => (Nat.length_toDigits_le_iff (by omega) (by omega)).mpr (by omega)
  cases i with
  | ofNat n =>
    have e : intS (Int.ofNat n) = (Nat.toDigits 10 n).map Char.toNat := intS_nat n
    rw [e, List.length_map]
    have := key n (by simpa using h)
    omega
  | negSucc n =>
    rw [intS_eq]
    have e : (toString (Int.negSucc n) : String) = "-" ++ toString (n + 1) := rfl
    rw [e, List.length_map, String.toList_append, List.length_append, Nat.toString_eq_ofList_toDigits]
    have := key (n + 1) (by simpa using h)
    simp
    omega
theorem len_join (ts : List Str) : (Str.join ", " ts).length ≤ piled ts := by
  cases ts with
  | nil => exact Nat.le_refl 0
  | cons t r => have := join_length_add (t :: r) (by simp); omega
theorem len_from : ∀ (ts : List Str) (k : Nat) (acc : Str), (textFrom k acc ts).length ≤ acc.length + piled ts
  | [], k, acc => by simp [textFrom, piled]
  | t :: ts, k, acc => by
    have ih := len_from ts (k + 1) (acc ++ (if k > 0 then ", " else "" : String) ++ t)
    have e : (acc ++ (if k > 0 then ", " else "" : String) ++ t).length ≤ acc.length + 2 + t.length := by
      rw [strLen_append, strLen_append]
      split
      · have : ((", " : String) : Str).length = 2 := rfl
        omega
      · have : (("" : String) : Str).length = 0 := rfl
        omega
    have p : piled (t :: ts) = t.length + 2 + piled ts := by simp [piled]
    simp only [textFrom]
    omega
mutual
theorem shown_le : ∀ p : PyData, nice p = true → p.shown.length ≤ wt p ∧ p.showable = true
  | .none, _ => ⟨by decide +kernel, rfl⟩
  | .bool b, _ => ⟨by cases b <;> decide +kernel, rfl⟩
  | .int i, h => by
    simp only [nice, decide_eq_true_eq] at h
    refine ⟨?_, ?_⟩
    · have : (PyData.int i).shown.length = (intS i).length := by
        show (toString i : PySem.Str).cps.size = (toString i : PySem.Str).cps.toList.length
        simp
      rw [this]
      have := intS_abs i h
      simp only [wt]
      omega
    · have := log2_le h
      simp only [PyData.showable, decide_eq_true_eq]
      omega
  | .str x, h => by
    simp only [nice, List.all_eq_true, decide_eq_true_eq] at h
    exact ⟨StrLaws.reprText_len x fun c hc => Nat.lt_trans (h c hc) (by decide), rfl⟩
  | .list xs, h => by
    simp only [nice] at h
    obtain ⟨a, b⟩ := showns_le xs h
    refine ⟨?_, b⟩
    show (listText (PyData.shownAll xs)).length ≤ wts xs + 2
    unfold listText
    have := len_from (PyData.shownAll xs) 0 "["
    have e1 : (("[" : String) : Str).length = 1 := rfl
    have e2 : (("]" : String) : Str).length = 1 := rfl
    rw [strLen_append]
    omega
  | .tuple xs, h => by
    simp only [nice] at h
    obtain ⟨a, b⟩ := showns_le xs h
    refine ⟨?_, b⟩
    show (tupleText (PyData.shownAll xs)).length ≤ wts xs + 3
    unfold tupleText
    have := len_join (PyData.shownAll xs)
    have e1 : (("(" : String) : Str).length = 1 := rfl
    have e3 : (((if (PyData.shownAll xs).length == 1 then ",)" else ")" : String) : Str)).length ≤ 2 := by split <;> decide
    rw [strLen_append, strLen_append]
    omega
  | .dict _, h => by simp [nice] at h
theorem showns_le : ∀ xs : List PyData, nices xs = true → piled (PyData.shownAll xs) ≤ wts xs ∧ PyData.showableAll xs = true
  | [], _ => ⟨Nat.le_refl 0, rfl⟩
  | x :: xs, h => by
    simp only [nices, Bool.and_eq_true] at h
    obtain ⟨a, b⟩ := shown_le x h.1
    obtain ⟨c, d⟩ := showns_le xs h.2
    refine ⟨?_, by simp only [PyData.showableAll, b, d, Bool.and_self]⟩
    have p : piled (PyData.shownAll (x :: xs)) = x.shown.length + 2 + piled (PyData.shownAll xs) := by simp [piled, PyData.shownAll]
    simp only [wts]
    omega
end
theorem wts_le (k : Nat) : ∀ xs : List PyData, (∀ x ∈ xs, wt x ≤ k) → wts xs ≤ (k + 2) * xs.length
  | [], _ => by simp [wts]
  | x :: xs, h => by
    have i := wts_le k xs fun y hy => h y (by simp [hy])
    have := h x (by simp)
    simp only [wts, List.length_cons, Nat.mul_add, Nat.mul_one]
    omega
theorem nices_all : ∀ xs : List PyData, (∀ x ∈ xs, nice x = true) → nices xs = true
  | [], _ => rfl
  | x :: xs, h => by simp only [nices, h x (by simp), nices_all xs fun y hy => h y (by simp [hy]), Bool.and_self]
/-- repr of nested data -/
theorem repr_nice {h : Hp} {d : D} (k : dok h 60 d = true) (n : nice (toP h 60 d) = true) (w : wt (toP h 60 d) ≤ lim) : reprV h (.val d) = some (toP h 60 d).shown.cps.toList := by
  show reprD h d = _
  obtain ⟨a, b⟩ := shown_le _ n
  unfold reprD
  rw [k, b, Bool.true_and, Bool.true_and, if_pos (decide_eq_true (by omega))]
end G

/-! PC: counters, their texts and numbers; serials that show a number. -/
namespace PC
def csz : List (List Nat) → Int
  | [] => 1
  | s :: r => (s.length : Int) * csz r
/-- the first place of a sign -/
def ix (c : Nat) : List Nat → Nat
  | [] => 0
  | x :: r => if x = c then 0 else ix c r + 1
def tx : List (List Nat) → Int → List Nat
  | [], _ => []
  | s :: r, n => s.getD (n / csz r % s.length).toNat 0 :: tx r n
def nm : List (List Nat) → List Nat → Int
  | s :: r, c :: t => (ix c s : Int) * csz r + nm r t
  | _, _ => 0
def Dl (s : List Nat) : Prop := 2 ≤ s.length ∧ s.Nodup
def Dls (cs : List (List Nat)) : Prop := ∀ s ∈ cs, Dl s
theorem Dls.tl {s : List Nat} {r : List (List Nat)} (h : Dls (s :: r)) : Dls r := fun t ht => h t (by simp [ht])
theorem Dls.hd {s : List Nat} {r : List (List Nat)} (h : Dls (s :: r)) : Dl s := h s (by simp)
theorem csz_pos : ∀ {cs : List (List Nat)}, Dls cs → 1 ≤ csz cs
  | [], _ => by simp [csz]
  | s :: r, h => by
    have i := csz_pos h.tl
    have := h.hd.1
    have m : 1 * 1 ≤ (s.length : Int) * csz r := Int.mul_le_mul (by omega) i (by omega) (by omega)
    simpa [csz] using m
theorem csz_app : ∀ (a b : List (List Nat)), csz (a ++ b) = csz a * csz b
  | [], b => by simp [csz]
  | s :: a, b => by simp only [List.cons_append, csz, csz_app a b, Int.mul_assoc]
theorem csz_rev : ∀ (a : List (List Nat)), csz a.reverse = csz a
  | [] => rfl
  | s :: a => by rw [List.reverse_cons, csz_app, csz_rev a]; simp only [csz]; rw [Int.mul_one, Int.mul_comm]
theorem tx_len : ∀ (cs : List (List Nat)) (n : Int), (tx cs n).length = cs.length
  | [], _ => rfl
  | s :: r, n => by simp only [tx, List.length_cons, tx_len r n]
theorem getD_mem {s : List Nat} {i : Nat} (h : i < s.length) : s.getD i 0 ∈ s := by
  rw [List.getD_eq_getElem?_getD, List.getElem?_eq_getElem h]
  exact List.getElem_mem h
theorem ix_get : ∀ {s : List Nat} {i : Nat}, s.Nodup → (h : i < s.length) → ix (s.getD i 0) s = i
  | [], i, _, h => by simp at h
  | x :: s, 0, _, _ => by simp [ix]
  | x :: s, i + 1, nd, h => by
    rw [List.nodup_cons] at nd
    have hi : i < s.length := by simpa using h
    have e : (x :: s).getD (i + 1) 0 = s.getD i 0 := rfl
    have ne : ¬ x = s.getD i 0 := fun z => nd.1 (by rw [z]; exact getD_mem hi)
    rw [e]
    simp only [ix, if_neg ne, ix_get nd.2 hi]
theorem ix_lt : ∀ {s : List Nat} {c : Nat}, c ∈ s → ix c s < s.length
  | [], c, h => by simp at h
  | x :: s, c, h => by
    simp only [ix]
    split
    · simp
    · rename_i ne
      have : c ∈ s := by
        rcases List.mem_cons.mp h with z | z
        · exact absurd z.symm ne
        · exact z
      have := ix_lt this
      simp only [List.length_cons]
      omega
theorem ti {n L C : Int} (hL : 0 < L) : 0 ≤ n / C % L ∧ n / C % L < L := ⟨Int.emod_nonneg _ (by omega), Int.emod_lt_of_pos _ hL⟩
theorem mod_mul {n L C : Int} (hL : 0 < L) (hC : 0 < C) : n / C % L * C + n % C = n % (L * C) := by
  have e1 := Int.mul_ediv_add_emod n C
  have e2 := Int.mul_ediv_add_emod (n / C) L
  have a0 := Int.emod_nonneg n (show C ≠ 0 by omega)
  have a1 := Int.emod_lt_of_pos n hC
  have ⟨b0, b1⟩ := ti (n := n) (C := C) hL
  have p : 0 < L * C := Int.mul_pos hL hC
  have c1 : n / C % L * C ≤ (L - 1) * C := Int.mul_le_mul_of_nonneg_right (by omega) (by omega)
  have c0 : 0 ≤ n / C % L * C := Int.mul_nonneg b0 (by omega)
  rw [Int.sub_mul, Int.one_mul] at c1
  symm
  refine PL.mod_of (c := n / C / L) ?_ (by omega) (by omega)
  have e3 : C * (n / C) = n / C / L * (L * C) + n / C % L * C := by
    calc C * (n / C) = C * (L * (n / C / L) + n / C % L) := by rw [e2]
      _ = n / C / L * (L * C) + n / C % L * C := by rw [Int.mul_add, Int.mul_comm C (n / C % L), ← Int.mul_assoc, Int.mul_comm (C * L), Int.mul_comm C L]
  omega
theorem nm_tx : ∀ {cs : List (List Nat)}, Dls cs → ∀ n : Int, nm cs (tx cs n) = n % csz cs
  | [], _, n => by simp [nm, csz, Int.emod_one]
  | s :: r, h, n => by
    have hl : (0 : Int) < (s.length : Int) := by have := h.hd.1; omega
    have hc := csz_pos h.tl
    have ⟨b0, b1⟩ := ti (n := n) (C := csz r) hl
    have hi : (n / csz r % (s.length : Int)).toNat < s.length := by omega
    have e : ((n / csz r % (s.length : Int)).toNat : Int) = n / csz r % (s.length : Int) := Int.toNat_of_nonneg b0
    simp only [nm, tx, csz, ix_get h.hd.2 hi, nm_tx h.tl n, e]
    exact mod_mul hl (by omega)
theorem tx_inj {cs : List (List Nat)} (h : Dls cs) {a b : Int} (a0 : 0 ≤ a) (a1 : a < csz cs) (b0 : 0 ≤ b) (b1 : b < csz cs) : tx cs a = tx cs b ↔ a = b := by
  constructor
  · intro e
    have x := nm_tx h a
    rw [e, nm_tx h b, Int.emod_eq_of_lt a0 a1, Int.emod_eq_of_lt b0 b1] at x
    exact x.symm
  · intro e; rw [e]
/-- the text from its last sign on -/
def txR : List (List Nat) → Int → List Nat → List Nat
  | [], _, acc => acc
  | s :: r, n, acc => txR r (n / s.length) (s.getD (n % s.length).toNat 0 :: acc)
theorem txR_snoc (s : List Nat) : ∀ (a : List (List Nat)) (n : Int) (acc : List Nat), txR (a ++ [s]) n acc = s.getD (n / csz a % s.length).toNat 0 :: txR a n acc
  | [], n, acc => by simp [txR, csz]
  | x :: a, n, acc => by
    simp only [List.cons_append, txR, csz]
    rw [txR_snoc s a, Int.ediv_ediv_of_nonneg (by omega)]
theorem txR_eq : ∀ (cs : List (List Nat)) (n : Int) (acc : List Nat), txR cs.reverse n acc = tx cs n ++ acc
  | [], n, acc => rfl
  | s :: r, n, acc => by
    rw [List.reverse_cons, txR_snoc, csz_rev, txR_eq r n acc]
    rfl
/-- a text of a counter -/
inductive Tx : List (List Nat) → List Nat → Prop
  | nil : Tx [] []
  | cons {s : List Nat} {r : List (List Nat)} {c : Nat} {t : List Nat} : c ∈ s → Tx r t → Tx (s :: r) (c :: t)
theorem tx_Tx : ∀ {cs : List (List Nat)}, Dls cs → ∀ n : Int, Tx cs (tx cs n)
  | [], _, _ => .nil
  | s :: r, h, n => by
    have hl : (0 : Int) < (s.length : Int) := by have := h.hd.1; omega
    have ⟨b0, b1⟩ := ti (n := n) (C := csz r) hl
    exact .cons (getD_mem (by omega)) (tx_Tx h.tl n)
theorem Tx.len {cs : List (List Nat)} {t : List Nat} (h : Tx cs t) : t.length = cs.length := by
  induction h with
  | nil => rfl
  | cons _ _ ih => simp [ih]
/-! ### serials that show a number -/
/-- behind how many serials a text comes again -/
def rnd (W st : Int) : Int := W / (Nat.gcd W.natAbs st.natAbs : Nat)
/-- all serials that show a number are the first one and round by round -/
def IsSer (W b st n : Int) : Option Int → Prop
  | none => ∀ s : Int, (b + s * st) % W ≠ n
  | some f => 0 ≤ f ∧ f < rnd W st ∧ ∀ s : Int, (b + s * st) % W = n ↔ s % rnd W st = f
structure Par (W st g : Int) : Prop where
  w : 0 < W
  eq : g = (Nat.gcd W.natAbs st.natAbs : Nat)
theorem Par.pos {W st g : Int} (p : Par W st g) : 0 < g := by
  rw [p.eq]
  have : 0 < Nat.gcd W.natAbs st.natAbs := Nat.gcd_pos_of_pos_left _ (by have := p.w; omega)
  omega
theorem nd {a : Nat} {b : Int} (h : a ∣ b.natAbs) : (a : Int) ∣ b := Int.natAbs_dvd_natAbs.mp (by simpa using h)
theorem Par.dw {W st g : Int} (p : Par W st g) : g ∣ W := by
  rw [p.eq]
  exact nd (Nat.gcd_dvd_left _ _)
theorem Par.ds {W st g : Int} (p : Par W st g) : g ∣ st := by
  rw [p.eq]
  exact nd (Nat.gcd_dvd_right _ _)
theorem Par.rw' {W st g : Int} (p : Par W st g) : rnd W st = W / g := by rw [p.eq]; rfl
theorem Par.mul {W st g : Int} (p : Par W st g) : g * (W / g) = W := Int.mul_ediv_cancel' p.dw
theorem Par.rpos {W st g : Int} (p : Par W st g) : 0 < W / g := by
  have := p.mul
  have := p.w
  have := p.pos
  rcases Int.lt_or_le 0 (W / g) with z | z
  · exact z
  · have : g * (W / g) ≤ g * 0 := Int.mul_le_mul_of_nonneg_left z (by omega)
    omega
theorem dvd_iff {a b c : Int} (h : c ≠ 0) : c * a ∣ c * b ↔ a ∣ b := Int.mul_dvd_mul_iff_left h
theorem mod_eq_iff {W a n : Int} (n0 : 0 ≤ n) (n1 : n < W) : a % W = n ↔ W ∣ a - n := by
  constructor
  · intro e
    have := Int.dvd_self_sub_of_emod_eq e
    exact this
  · intro d
    have := (Int.emod_eq_emod_iff_emod_sub_eq_zero (m := a) (n := W) (k := n)).mpr (Int.emod_eq_zero_of_dvd d)
    rw [this, Int.emod_eq_of_lt n0 n1]
/-- what is computed is the first serial -/
theorem ser_ok {W b st n g inv : Int} (p : Par W st g) (n0 : 0 ≤ n) (n1 : n < W) (hi : (W / g) ∣ inv * (st / g) - 1) :
    IsSer W b st n (if (n - b) % W % g = 0 then some ((n - b) % W / g * inv % (W / g)) else none) := by
  have wp := p.w
  have gp := p.pos
  have rp := p.rpos
  have em := p.mul
  have es : g * (st / g) = st := Int.mul_ediv_cancel' p.ds
  generalize hr : (n - b) % W = r
  have r0 : 0 ≤ r := by rw [← hr]; exact Int.emod_nonneg _ (by omega)
  have dr : W ∣ (n - b) - r := by rw [← hr]; exact Int.dvd_self_sub_emod
  have key : ∀ s : Int, (b + s * st) % W = n ↔ W ∣ s * st - r := fun s => by
    rw [mod_eq_iff n0 n1]
    constructor
    · intro d
      have := Int.dvd_add d dr
      rw [show b + s * st - n + (n - b - r) = s * st - r by omega] at this
      exact this
    · intro d
      have := Int.dvd_sub d dr
      rw [show s * st - r - (n - b - r) = b + s * st - n by omega] at this
      exact this
  by_cases hg : r % g = 0
  · rw [if_pos hg]
    have er : g * (r / g) = r := Int.mul_ediv_cancel' (Int.dvd_of_emod_eq_zero hg)
    refine ⟨Int.emod_nonneg _ (by omega), by rw [p.rw']; exact Int.emod_lt_of_pos _ rp, fun s => ?_⟩
    rw [key s, p.rw']
    have e1 : s * st - r = g * (s * (st / g) - r / g) := by
      rw [Int.mul_sub, er, ← Int.mul_assoc, Int.mul_comm g s, Int.mul_assoc, es]
    have e2 : W ∣ s * st - r ↔ W / g ∣ s * (st / g) - r / g := by
      rw [e1]
      conv => lhs; rw [← em]
      exact dvd_iff (by omega)
    rw [e2]
    obtain ⟨c, hc⟩ := hi
    have e4 : inv * (st / g) = 1 + W / g * c := by omega
    constructor
    · intro d
      have d1 : W / g ∣ inv * (s * (st / g) - r / g) := Int.dvd_mul_of_dvd_right d
      have e3 : inv * (s * (st / g) - r / g) = (s - r / g * inv) + W / g * (c * s) := by
        have : inv * (s * (st / g)) = s + W / g * (c * s) := by
          rw [Int.mul_left_comm, e4, Int.mul_add, Int.mul_one, Int.mul_left_comm, Int.mul_comm s c]
        rw [Int.mul_sub, this, Int.mul_comm inv (r / g)]
        omega
      rw [e3] at d1
      have d2 : W / g ∣ s - r / g * inv := (Int.dvd_add_left (Int.dvd_mul_right _ _)).mp d1
      exact Int.emod_eq_emod_iff_emod_sub_eq_zero.mpr (Int.emod_eq_zero_of_dvd d2)
    · intro e
      have d2 : W / g ∣ s - r / g * inv := Int.dvd_of_emod_eq_zero (Int.emod_eq_emod_iff_emod_sub_eq_zero.mp e)
      have d1 : W / g ∣ (s - r / g * inv) * (st / g) := Int.dvd_mul_of_dvd_left d2
      have e3 : (s - r / g * inv) * (st / g) = (s * (st / g) - r / g) - W / g * (c * (r / g)) := by
        rw [Int.sub_mul, Int.mul_assoc (r / g), e4, Int.mul_add, Int.mul_one, Int.mul_left_comm (r / g), Int.mul_comm (r / g) c]
        omega
      rw [e3] at d1
      have := Int.dvd_add d1 (Int.dvd_mul_right (W / g) (c * (r / g)))
      rw [Int.sub_add_cancel] at this
      exact this
  · rw [if_neg hg]
    intro s hs
    have d := (key s).mp hs
    have d1 : g ∣ s * st - r := Int.dvd_trans p.dw d
    have d2 : g ∣ s * st := Int.dvd_mul_of_dvd_right p.ds
    have d3 : g ∣ r := by
      have := Int.dvd_sub d2 d1
      rw [show s * st - (s * st - r) = r by omega] at this
      exact this
    exact hg (Int.emod_eq_zero_of_dvd d3)
end PC

/-! LC: what the defs of counters give. -/
namespace G
open PC
/-- a good dial -/
structure DialOk (s : List Nat) : Prop where
  lo : 2 ≤ s.length
  hi : s.length ≤ 36
  nd : s.Nodup
  run : ∀ C : Nat → List D → Hp → R Rv, runFn C Lib.counters.fn_is_dial [.str s] [] = .ok (.val (.bl true)) []
structure Ctr (cs : List (List Nat)) : Prop where
  ne : 1 ≤ cs.length
  le : cs.length ≤ 12
  ok : ∀ s ∈ cs, DialOk s
theorem Ctr.dls {cs : List (List Nat)} (c : Ctr cs) : Dls cs := fun s hs => ⟨(c.ok s hs).lo, (c.ok s hs).nd⟩
theorem csz_le : ∀ {cs : List (List Nat)}, (∀ s ∈ cs, DialOk s) → csz cs ≤ 36 ^ cs.length
  | [], _ => by simp [csz]
  | s :: r, h => by
    have i := csz_le (cs := r) fun t ht => h t (by simp [ht])
    have hs := h s (by simp)
    have p := csz_pos (cs := r) fun t ht => ⟨(h t (by simp [ht])).lo, (h t (by simp [ht])).nd⟩
    have := hs.hi
    have m : (s.length : Int) * csz r ≤ 36 * 36 ^ r.length := Int.mul_le_mul (by omega) i (by omega) (by omega)
    simp only [csz, List.length_cons, Int.pow_succ]
    omega
theorem Ctr.pos {cs : List (List Nat)} (c : Ctr cs) : 1 ≤ csz cs := csz_pos c.dls
theorem Ctr.lt {cs : List (List Nat)} (c : Ctr cs) : csz cs ≤ 4738381338321616896 := by
  have := csz_le c.ok
  have : (36 : Int) ^ cs.length ≤ 36 ^ 12 := by
    have l := c.le
    have : (36 : Nat) ^ cs.length ≤ 36 ^ 12 := Nat.pow_le_pow_right (by omega) l
    exact_mod_cast this
  have : (36 : Int) ^ 12 = 4738381338321616896 := by decide
  omega
def cD (cs : List (List Nat)) : D := .tup (cs.map .str)
theorem frees_str (l : List (List Nat)) : D.frees (l.map .str) = true := by
  induction l with
  | nil => rfl
  | cons x r ih => simp only [List.map_cons, D.frees, D.free, ih, Bool.and_self]
@[simp] theorem cD_free (cs : List (List Nat)) : (cD cs).free = true := frees_str cs
theorem len_str {s : List Nat} (l : s.length ≤ 1000) (h : Hp) : b1V h .len (.val (.str s)) = .ok (.val (.int (s.length : Nat))) h := by
  have : s.length ≤ lim := by simp only [lim]; omega
  simp [e_len, lenOf, this]
theorem len_cD {cs : List (List Nat)} (l : cs.length ≤ 1000) (h : Hp) : b1V h .len (.val (cD cs)) = .ok (.val (.int (cs.length : Nat))) h := by
  have : cs.length ≤ lim := by simp only [lim]; omega
  simp [e_len, lenOf, cD, this]
section
variable {C : Nat → List D → Hp → R Rv}
/-! ### the size -/
theorem sz_loop (x : Option D) (h : Hp) : ∀ (cs : List (List Nat)), (∀ s ∈ cs, DialOk s) → ∀ (a : Int) (o : Option D), ∃ o', forL (fun d ρ => bindTg ρ (.one 2) d) [] (exs C (.cons (.aug 1 .mul (.b1 .len (.var 2))) .nil)) (cs.map .str) [x, some (.int a), o] h = .nx [x, some (.int (a * csz cs)), o'] h
  | [], _, a, o => ⟨o, by simp [forL, same, csz]⟩
  | s :: r, hk, a, o => by
    have hs := hk s (by simp)
    have hi := hs.hi
    obtain ⟨o', e⟩ := sz_loop x h r (fun t ht => hk t (by simp [ht])) (a * s.length) (some (.str s))
    refine ⟨o', ?_⟩
    have l6 : low64 (s.length : Int) = true := by
      simp only [low64, Bool.and_eq_true, decide_eq_true_eq]
      omega
    have ln := fun h => len_str (s := s) (by omega) h
    have st : exs C (.cons (.aug 1 .mul (.b1 .len (.var 2))) .nil) [x, some (.int a), some (.str s)] h = .nx [x, some (.int (a * s.length)), some (.str s)] h := by
      simp only [exs, ex, List.getElem?_cons_succ, List.getElem?_cons_zero, ev, r_bind, ln, r_st, augV, l6, Bool.or_true, if_true, List.set_cons_succ, List.set_cons_zero]
    have bt : bindTg [x, some (.int a), o] (.one 2) (.str s) = some [x, some (.int a), some (.str s)] := rfl
    rw [List.map_cons]
    simp only [forL, same, bt, st, e]
    rw [csz, Int.mul_assoc]
theorem sz2_loop (x : Option D) (h : Hp) : ∀ (cs : List (List Nat)), (∀ s ∈ cs, DialOk s) → ∀ (a : Int) (o : Option D), 0 ≤ a → a * csz cs < 2 ^ 80 → ∃ o', forL (fun d ρ => bindTg ρ (.one 2) d) [] (exs C (.cons (.asg 1 (.bin .mul (.var 1) (.b1 .len (.var 2)))) .nil)) (cs.map .str) [x, some (.int a), o] h = .nx [x, some (.int (a * csz cs)), o'] h
  | [], _, a, o, _, _ => ⟨o, by simp [forL, same, csz]⟩
  | s :: r, hk, a, o, a0, ab => by
    have hs := hk s (by simp)
    have hi := hs.hi
    have lo := hs.lo
    have p := csz_pos (cs := r) fun t ht => ⟨(hk t (by simp [ht])).lo, (hk t (by simp [ht])).nd⟩
    have e5 : a * csz (s :: r) = a * s.length * csz r := by rw [csz, Int.mul_assoc]
    have al : 0 ≤ a * (s.length : Int) := Int.mul_nonneg a0 (by omega)
    obtain ⟨o', e⟩ := sz2_loop x h r (fun t ht => hk t (by simp [ht])) (a * s.length) (some (.str s)) al (by rw [← e5]; exact ab)
    refine ⟨o', ?_⟩
    have b1 : a * (s.length : Int) * 1 ≤ a * s.length * csz r := Int.mul_le_mul_of_nonneg_left p al
    have b2 : a * 1 ≤ a * (s.length : Int) := Int.mul_le_mul_of_nonneg_left (by omega) a0
    have mo : mulOk a (s.length : Int) = true := mulOk_of 80 10 (nat_lt a0 (by omega)) (by omega) (by omega)
    have ln := fun h => len_str (s := s) (by omega) h
    have st : exs C (.cons (.asg 1 (.bin .mul (.var 1) (.b1 .len (.var 2)))) .nil) [x, some (.int a), some (.str s)] h = .nx [x, some (.int (a * s.length)), some (.str s)] h := by
      simp only [exs, ex, List.getElem?_cons_succ, List.getElem?_cons_zero, ev, r_bind, ln, bin_mul, mo, r_when, r_st, boxOne, List.set_cons_succ, List.set_cons_zero]
    have bt : bindTg [x, some (.int a), o] (.one 2) (.str s) = some [x, some (.int a), some (.str s)] := rfl
    rw [List.map_cons]
    simp only [forL, same, bt, st, e]
    rw [e5]
theorem seq_cD (i : Nat) {ρ : Env} {h : Hp} {cs : List (List Nat)} (e : ρ[i]? = some (some (cD cs))) : evi C (.seq (.var i)) ρ h = .ok (cs.map .str, []) h := by
  simp [evi, ev, e, cD, itemsOf, watch]
theorem s_size {cs : List (List Nat)} (k : Ctr cs) (h : Hp) : runFn C Lib.counters.fn_size_in [cD cs] h = .ok (.val (.int (csz cs))) h := by
  obtain ⟨o', e⟩ := sz_loop (C := C) (some (cD cs)) h cs k.ok 1 none
  refine runFn_eq (ρ := [some (cD cs), none, none]) ?_ rfl rfl
  have e1 : ex C (.asg 1 (.c (.int 1))) [some (cD cs), none, none] h = .nx [some (cD cs), some (.int 1), none] h := by simp [ex, ev, boxOne]
  have eb : Lib.counters.b_size_in = .cons (.asg 1 (.c (.int 1))) (.cons (.for_ (.one 2) (.seq (.var 0)) (.cons (.aug 1 .mul (.b1 .len (.var 2))) .nil)) (.cons (.ret (.var 1)) .nil)) := rfl
  rw [Int.one_mul] at e
  rw [eb]
  simp only [exs, e1]
  rw [ex_for (seq_cD 0 rfl)]
  dsimp only
  rw [e]
  simp [ex, ev]
/-- the size as laws have it -/
def szB : Ss := .cons (.asg 1 (.c (.int 1))) (.cons (.for_ (.one 2) (.seq (.var 0)) (.cons (.asg 1 (.bin .mul (.var 1) (.b1 .len (.var 2)))) .nil)) (.cons (.ret (.var 1)) .nil))
theorem s_size2 {cs : List (List Nat)} (k : Ctr cs) (h : Hp) : runFn C ⟨1, 3, szB⟩ [cD cs] h = .ok (.val (.int (csz cs))) h := by
  have lt := k.lt
  obtain ⟨o', e⟩ := sz2_loop (C := C) (some (cD cs)) h cs k.ok 1 none (by omega) (by omega)
  refine runFn_eq (ρ := [some (cD cs), none, none]) ?_ rfl rfl
  have e1 : ex C (.asg 1 (.c (.int 1))) [some (cD cs), none, none] h = .nx [some (cD cs), some (.int 1), none] h := by simp [ex, ev, boxOne]
  rw [Int.one_mul] at e
  unfold szB
  simp only [exs, e1]
  rw [ex_for (seq_cD 0 rfl)]
  dsimp only
  rw [e]
  simp [ex, ev]
/-! ### texts -/
def txB : Ss := .cons (.asg 2 (.bin .add (.idx (.var 3) (.bin .mod (.b1 .int (.var 1)) (.b1 .len (.var 3)))) (.var 2))) (.cons (.asg 1 (.bin .fdiv (.var 1) (.b1 .len (.var 3)))) .nil)
theorem tx_loop (x : Option D) (h : Hp) : ∀ (l : List (List Nat)), (∀ s ∈ l, DialOk s) → ∀ (n : Int) (acc : List Nat) (o : Option D), l.length + acc.length ≤ 1000 → ∃ n' o', forL (fun d ρ => bindTg ρ (.one 3) d) [] (exs C txB) (l.map .str) [x, some (.int n), some (.str acc), o] h = .nx [x, some (.int n'), some (.str (txR l n acc)), o'] h
  | [], _, n, acc, o, _ => ⟨n, o, by simp [forL, same, txR]⟩
  | s :: r, hk, n, acc, o, hl => by
    have hs := hk s (by simp)
    have hi := hs.hi
    have lo := hs.lo
    have hl2 : r.length + 1 + acc.length ≤ 1000 := by simpa using hl
    obtain ⟨n', o', e⟩ := tx_loop x h r (fun t ht => hk t (by simp [ht])) (n / s.length) (s.getD (n % s.length).toNat 0 :: acc) (some (.str s)) (by simp only [List.length_cons]; omega)
    refine ⟨n', o', ?_⟩
    have sp : (0 : Int) < (s.length : Int) := by omega
    have m0 := Int.emod_nonneg n (show (s.length : Int) ≠ 0 by omega)
    have m1 := Int.emod_lt_of_pos n sp
    have ln := fun h => len_str (s := s) (by omega) h
    have dv : divOk (s.length : Int) = true := divOk_of 10 sp (by omega) (by omega)
    have ht : (n % (s.length : Int)).toNat < s.length := by omega
    have at1 : atI s (n % (s.length : Int)) = some (s.getD (n % s.length).toNat 0) := by
      simp only [atI, ixN, if_pos m0, if_pos m1, Option.bind_some, List.getElem?_eq_getElem ht, List.getD_eq_getElem?_getD, Option.getD_some]
    have sl : s.length ≤ lim := by simp only [lim]; omega
    have ix1 : idxV h (.val (.str s)) (.val (.int (n % (s.length : Int)))) = .ok (.val (.str [s.getD (n % s.length).toNat 0])) h := by
      simp only [idxV, sl, if_true, at1, Option.map_some, r_opt]
    have al : [s.getD (n % (s.length : Int)).toNat 0].length + acc.length ≤ lim := by simp only [List.length_singleton, lim]; omega
    have ad : binV h .add (.val (.str [s.getD (n % s.length).toNat 0])) (.val (.str acc)) = .ok (.val (.str (s.getD (n % s.length).toNat 0 :: acc))) h := by
      simp only [binV, addV, decide_eq_true al, r_when, List.singleton_append]
    have st : exs C txB [x, some (.int n), some (.str acc), some (.str s)] h = .nx [x, some (.int (n / s.length)), some (.str (s.getD (n % s.length).toNat 0 :: acc)), some (.str s)] h := by
      simp only [txB, exs, ex, List.getElem?_cons_succ, List.getElem?_cons_zero, ev, r_bind, b1_i, ln, bin_mod, decide_eq_true sp, r_when, ix1, ad, r_st, boxOne, List.set_cons_succ, List.set_cons_zero, bin_fdiv, dv]
    have bt : bindTg [x, some (.int n), some (.str acc), o] (.one 3) (.str s) = some [x, some (.int n), some (.str acc), some (.str s)] := rfl
    rw [List.map_cons]
    simp only [forL, same, bt, st, e]
    rfl
theorem s_text {cs : List (List Nat)} (k : Ctr cs) (n : Int) (h : Hp) : runFn C Lib.counters.fn_text_in [cD cs, .int n] h = .ok (.val (.str (PC.tx cs n))) h := by
  obtain ⟨n', o', e⟩ := tx_loop (C := C) (some (cD cs)) h cs.reverse (fun s hs => k.ok s (List.mem_reverse.mp hs)) n [] none (by have := k.le; simp; omega)
  rw [txR_eq, List.append_nil] at e
  refine runFn_eq (ρ := [some (cD cs), some (.int n), none, none]) ?_ rfl rfl
  have e1 : ex C (.asg 2 (.c (.str []))) [some (cD cs), some (.int n), none, none] h = .nx [some (cD cs), some (.int n), some (.str []), none] h := by simp [ex, ev, boxOne]
  have ei : evi C (.seq (.rev (.var 0))) [some (cD cs), some (.int n), some (.str []), none] h = .ok (cs.reverse.map .str, []) h := by
    simp [evi, ev, cD, revV, itemsOf, watch]
  have eb : Lib.counters.b_text_in = .cons (.asg 2 (.c (.str []))) (.cons (.for_ (.one 3) (.seq (.rev (.var 0))) txB) (.cons (.ret (.var 2)) .nil)) := rfl
  rw [eb]
  simp only [exs, e1]
  rw [ex_for ei]
  simp only [exs, e]
  simp [ex, ev]
/-! ### is it a text; its number -/
theorem zip_cs : ∀ (cs : List (List Nat)) (t : List Nat), Tx cs t → zipL (chars t) (cs.map .str) = (t.zip cs).map fun p => .tup [.str [p.1], .str p.2]
  | _, _, .nil => rfl
  | s :: r, c :: t, .cons _ h => by
    have i := zip_cs r t h
    simp only [chars] at i
    simp only [chars, List.map_cons, zipL, i, List.zip_cons_cons]
theorem isT_comp (h : Hp) (g : D → Hp → R (List D)) : ∀ (cs : List (List Nat)) (t : List Nat), Tx cs t → (∀ c s, c ∈ s → g (.tup [.str [c], .str s]) h = .ok [.bl true] h) → compL [] g (zipL (chars t) (cs.map .str)) h = .ok (List.replicate cs.length (.bl true)) h
  | _, _, .nil, _ => rfl
  | s :: r, c :: t, .cons hc ht, H => by
    have i := isT_comp h g r t ht H
    simp only [chars] at i
    simp only [chars, List.map_cons, zipL, compL, same, H c s hc, i, List.length_cons, List.replicate_succ, List.singleton_append]
theorem bools_rep : ∀ n : Nat, boolsOf (List.replicate n (.bl true)) = some (List.replicate n true)
  | 0 => rfl
  | n + 1 => by simp [List.replicate_succ, boolsOf, bools_rep n]
theorem all_rep (n : Nat) (h : Hp) : b1V h .all (.new (.lst (List.replicate n (.bl true)))) = .ok (.val (.bl true)) h := by
  have : (List.replicate n true).all id = true := by simp
  simp [b1V, lstOf, objOf, lstIn, bools_rep, this]
theorem e_zip {ρ : Env} {h : Hp} {cs : List (List Nat)} {t : List Nat} {i j : Nat} (ei : ρ[i]? = some (some (.str t))) (ej : ρ[j]? = some (some (cD cs))) : evi C (.zip (.var i) (.var j)) ρ h = .ok (zipL (chars t) (cs.map .str), []) h := by
  simp [evi, ev, ei, ej, cD, itemsOf, watch]
theorem s_is_text {cs : List (List Nat)} {t : List Nat} (k : Ctr cs) (ht : Tx cs t) (h : Hp) : runFn C Lib.counters.fn_is_text [cD cs, .str t] h = .ok (.val (.bl true)) h := by
  have le := k.le
  have tl := ht.len
  refine runFn_eq (ρ := [some (cD cs), some (.str t), none, none]) ?_ rfl rfl
  have l1 := fun h => len_str (s := t) (by omega) h
  have l2 := fun h => len_cD (cs := cs) (by omega) h
  have rl : (List.replicate cs.length (D.bl true)).length ≤ lim := by simp only [List.length_replicate, lim]; omega
  have lc : ev C (.lc [2, 3] (.many [2, 3]) (.zip (.var 1) (.var 0)) .nil (.cmp .in_ (.var 2) (.var 3))) [some (cD cs), some (.str t), none, none] h = .ok (.new (.lst (List.replicate cs.length (.bl true)))) h := by
    rw [ev_lc, e_zip rfl rfl]
    simp only [r_bind]
    rw [isT_comp h _ cs t ht fun c s hc => ?_]
    · simp only [r_bind, decide_eq_true rl, r_when]
    · have bt : bindTg (wipeE [some (cD cs), some (.str t), none, none] [2, 3]) (.many [2, 3]) (.tup [.str [c], .str s]) = some [some (cD cs), some (.str t), some (.str [c]), some (.str s)] := rfl
      simp only [lcF, bt, tsts, r_bind, ev, List.getElem?_cons_succ, List.getElem?_cons_zero, cmpV, inV, decide_eq_true hc, r_bool, boxOne]
  have eb : Lib.counters.b_is_text = .cons (.ife (.or (.not (.isi (.var 1) .str)) (.cmp .ne (.b1 .len (.var 1)) (.b1 .len (.var 0)))) (.cons (.ret (.c (.bl false))) .nil) .nil) (.cons (.ret (.b1 .all (.lc [2, 3] (.many [2, 3]) (.zip (.var 1) (.var 0)) .nil (.cmp .in_ (.var 2) (.var 3))))) .nil) := rfl
  have e1 : ex C (.ife (.or (.not (.isi (.var 1) .str)) (.cmp .ne (.b1 .len (.var 1)) (.b1 .len (.var 0)))) (.cons (.ret (.c (.bl false))) .nil) .nil) [some (cD cs), some (.str t), none, none] h = .nx [some (cD cs), some (.str t), none, none] h := by
    simp [ex, tst, ev, tyIs, l1, l2, tl, exs]
  rw [eb]
  generalize E.lc [2, 3] (.many [2, 3]) (.zip (.var 1) (.var 0)) .nil (.cmp .in_ (.var 2) (.var 3)) = q at lc ⊢
  simp only [exs, e1]
  simp only [ex, ev, lc, r_bind, all_rep, r_st]
theorem idx_ix : ∀ {s : List Nat} {c : Nat}, c ∈ s → idxOf c s = some (ix c s)
  | [], c, h => by simp at h
  | x :: s, c, h => by
    simp only [idxOf, ix]
    split
    · rfl
    · rename_i ne
      have : c ∈ s := by
        rcases List.mem_cons.mp h with z | z
        · exact absurd z.symm ne
        · exact z
      rw [idx_ix this]
      rfl
def nmB : Ss := .cons (.asg 2 (.bin .add (.bin .mul (.var 2) (.b1 .len (.var 4))) (.mt .index (.var 4) (.cons (.var 3) .nil)))) .nil
theorem nm_loop (x y : Option D) (h : Hp) : ∀ (cs : List (List Nat)) (t : List Nat), Tx cs t → (∀ s ∈ cs, DialOk s) → ∀ (a : Int) (o o2 : Option D), 0 ≤ a → (a + 1) * csz cs < 2 ^ 80 → ∃ o' o2', forL (fun d ρ => bindTg ρ (.many [3, 4]) d) [] (exs C nmB) (zipL (chars t) (cs.map .str)) [x, y, some (.int a), o, o2] h = .nx [x, y, some (.int (a * csz cs + nm cs t)), o', o2'] h
  | _, _, .nil, _, a, o, o2, _, _ => ⟨o, o2, by simp [forL, same, csz, nm, chars, zipL]⟩
  | s :: r, c :: t, .cons hc ht, hk, a, o, o2, a0, ab => by
    have hs := hk s (by simp)
    have hi := hs.hi
    have lo := hs.lo
    have hx := ix_lt hc
    have p := csz_pos (cs := r) fun t ht => ⟨(hk t (by simp [ht])).lo, (hk t (by simp [ht])).nd⟩
    have al : 0 ≤ a * (s.length : Int) := Int.mul_nonneg a0 (by omega)
    have e5 : (a + 1) * csz (s :: r) = (a * s.length + s.length) * csz r := by rw [csz, ← Int.mul_assoc, Int.add_mul, Int.one_mul]
    have q0 : (a * (s.length : Int) + (ix c s : Int) + 1) * csz r ≤ (a * s.length + s.length) * csz r := Int.mul_le_mul_of_nonneg_right (by omega) (by omega)
    obtain ⟨o', o2', e⟩ := nm_loop x y h r t ht (fun t ht => hk t (by simp [ht])) (a * s.length + ix c s) (some (.str [c])) (some (.str s)) (by omega) (by omega)
    refine ⟨o', o2', ?_⟩
    have b1 : (a * (s.length : Int) + s.length) * 1 ≤ (a * s.length + s.length) * csz r := Int.mul_le_mul_of_nonneg_left p (by omega)
    have b2 : a * 1 ≤ a * (s.length : Int) := Int.mul_le_mul_of_nonneg_left (by omega) a0
    have mo : mulOk a (s.length : Int) = true := mulOk_of 80 10 (nat_lt a0 (by omega)) (by omega) (by omega)
    have ln := fun h => len_str (s := s) (by omega) h
    have st : exs C nmB [x, y, some (.int a), some (.str [c]), some (.str s)] h = .nx [x, y, some (.int (a * s.length + ix c s)), some (.str [c]), some (.str s)] h := by
      simp only [nmB, exs, ex, List.getElem?_cons_succ, List.getElem?_cons_zero, ev, evs, r_bind, ln, bin_mul, mo, r_when, recv, mtV, idx_ix hc, Option.map_some, r_opt, bin_add, r_st, boxOne, List.set_cons_succ, List.set_cons_zero]
    have bt : bindTg [x, y, some (.int a), o, o2] (.many [3, 4]) (.tup [.str [c], .str s]) = some [x, y, some (.int a), some (.str [c]), some (.str s)] := rfl
    simp only [chars] at e
    simp only [chars, List.map_cons, zipL]
    simp only [forL, same, bt, st, e]
    have : (a * ↑s.length + ↑(ix c s)) * csz r + nm r t = a * csz (s :: r) + nm (s :: r) (c :: t) := by
      simp only [csz, nm]
      rw [Int.add_mul, Int.mul_assoc]
      omega
    rw [this]
theorem s_number {cs : List (List Nat)} {t : List Nat} (k : Ctr cs) (ht : Tx cs t) (h : Hp) : runFn C Lib.counters.fn_number_in [cD cs, .str t] h = .ok (.val (.int (nm cs t))) h := by
  have lt := k.lt
  obtain ⟨o', o2', e⟩ := nm_loop (C := C) (some (cD cs)) (some (.str t)) h cs t ht k.ok 0 none none (by omega) (by omega)
  rw [Int.zero_mul, Int.zero_add] at e
  refine runFn_eq (ρ := [some (cD cs), some (.str t), none, none, none]) ?_ rfl rfl
  have e1 : ex C (.asg 2 (.c (.int 0))) [some (cD cs), some (.str t), none, none, none] h = .nx [some (cD cs), some (.str t), some (.int 0), none, none] h := by simp [ex, ev, boxOne]
  have eb : Lib.counters.b_number_in = .cons (.asg 2 (.c (.int 0))) (.cons (.for_ (.many [3, 4]) (.zip (.var 1) (.var 0)) nmB) (.cons (.ret (.var 2)) .nil)) := rfl
  rw [eb]
  simp only [exs, e1]
  rw [ex_for (e_zip rfl rfl)]
  simp only [exs, e]
  simp [ex, ev]
end
end G

/-! LD: what the defs of counters and runs give, as calls. -/
namespace G
open PC
/-- the loop of Euclid with more beside it -/
theorem euc {test : Env → Hp → R Bool} {body : Env → Hp → SR} {h : Hp} (Iv : Int → Int → Env → Prop)
    (st : ∀ x y ρ, Iv x y ρ → 0 ≤ x → 0 < y → test ρ h = .ok true h ∧ ∃ ρ', body ρ h = .nx ρ' h ∧ Iv y (x % y) ρ')
    (en : ∀ x ρ, Iv x 0 ρ → test ρ h = .ok false h) :
    ∀ (j : Nat) (x y : Int) (n : Nat) (ρ : Env), 0 ≤ x → 0 ≤ y → y < 2 ^ j → 2 * j + 1 ≤ n → Iv x y ρ → ∃ ρ', whileL test body n ρ h = .nx ρ' h ∧ Iv (Nat.gcd x.toNat y.toNat : Nat) 0 ρ' := by
  have stop : ∀ (x : Int) (n : Nat) (ρ : Env), 0 ≤ x → Iv x 0 ρ → ∃ ρ', whileL test body (n + 1) ρ h = .nx ρ' h ∧ Iv (Nat.gcd x.toNat (0 : Int).toNat : Nat) 0 ρ' := fun x n ρ hx hi => by
    refine ⟨ρ, ?_, ?_⟩
    · simp only [whileL, en x ρ hi]
    · have : ((Nat.gcd x.toNat (0 : Int).toNat : Nat) : Int) = x := by simp; omega
      rw [this]
      exact hi
  have gs : ∀ x y : Int, 0 ≤ x → 0 < y → Nat.gcd x.toNat y.toNat = Nat.gcd y.toNat (x % y).toNat := fun x y hx hy => by
    rw [Int.toNat_emod hx (by omega), Nat.gcd_comm, Nat.gcd_rec, Nat.gcd_comm]
  intro j
  induction j with
  | zero =>
    intro x y n ρ hx hy hj hn hi
    have : y = 0 := by simp at hj; omega
    subst this
    match n, hn with
    | n + 1, _ => exact stop x n ρ hx hi
  | succ j ih =>
    intro x y n ρ hx hy hj hn hi
    match n, hn with
    | n + 2, hn =>
      by_cases hz : y = 0
      · subst hz; exact stop x (n + 1) ρ hx hi
      · have yp : 0 < y := by omega
        have q0 := Int.emod_nonneg x (show y ≠ 0 by omega)
        have q1 := Int.emod_lt_of_pos x yp
        obtain ⟨t1, ρ1, b1, i1⟩ := st x y ρ hi hx yp
        have w1 : whileL test body (n + 2) ρ h = whileL test body (n + 1) ρ1 h := by
          conv => lhs; unfold whileL
          simp only [t1, b1]
        rw [w1, gs x y hx yp]
        by_cases hz1 : x % y = 0
        · rw [hz1] at i1 ⊢; exact stop y n ρ1 (by omega) i1
        · have zp : 0 < x % y := by omega
          have r0 := Int.emod_nonneg y (show x % y ≠ 0 by omega)
          have r1 := Int.emod_lt_of_pos y zp
          obtain ⟨t2, ρ2, b2, i2⟩ := st y (x % y) ρ1 i1 (by omega) zp
          have w2 : whileL test body (n + 1) ρ1 h = whileL test body n ρ2 h := by
            conv => lhs; unfold whileL
            simp only [t2, b2]
          rw [w2, gs y (x % y) (by omega) zp]
          refine ih (x % y) (y % (x % y)) n ρ2 q0 r0 ?_ (by omega) i2
          have h1 : y % (x % y) ≤ y - x % y := by
            have q := Int.mul_ediv_add_emod y (x % y)
            have : 1 ≤ y / (x % y) := by
              rw [Int.le_ediv_iff_mul_le zp]
              omega
            have : (x % y) * 1 ≤ (x % y) * (y / (x % y)) := Int.mul_le_mul_of_nonneg_left this (by omega)
            omega
          have : (2 : Int) ^ (j + 1) = 2 ^ j * 2 := Int.pow_succ ..
          omega
/-- the defs of counters and runs stand -/
structure PRun (P : Nat → Option Fn) : Prop where
  whole : P Lib.counters.f_is_whole = some Lib.counters.fn_is_whole
  dial : P Lib.counters.f_is_dial = some Lib.counters.fn_is_dial
  isc : P Lib.counters.f_is_counter = some Lib.counters.fn_is_counter
  size : P Lib.counters.f_size_in = some Lib.counters.fn_size_in
  text : P Lib.counters.f_text_in = some Lib.counters.fn_text_in
  istx : P Lib.counters.f_is_text = some Lib.counters.fn_is_text
  num : P Lib.counters.f_number_in = some Lib.counters.fn_number_in
  common : P Lib.runs.f_common = some Lib.runs.fn_common
  inverse : P Lib.runs.f_inverse = some Lib.runs.fn_inverse
  shown : P Lib.runs.f_number_shown = some Lib.runs.fn_number_shown
  round : P Lib.runs.f_round_in = some Lib.runs.fn_round_in
  serial : P Lib.runs.f_serial_with = some Lib.runs.fn_serial_with
section
variable {P : Nat → Option Fn} (S : PRun P)
include S
theorem c_size (k : Nat) {cs : List (List Nat)} (c : Ctr cs) (h : Hp) : callV (sem P (k + 1)) Lib.counters.f_size_in [.val (cD cs)] h = .ok (.val (.int (csz cs))) h :=
  call_val (by simp [Rv.free]) rfl (hc := []) (by rw [sem_succ S.size]; exact s_size c []) rfl
theorem c_text (k : Nat) {cs : List (List Nat)} (c : Ctr cs) (n : Int) (h : Hp) : callV (sem P (k + 1)) Lib.counters.f_text_in [.val (cD cs), .val (.int n)] h = .ok (.val (.str (PC.tx cs n))) h :=
  call_val (by simp [Rv.free, D.free]) rfl (hc := []) (by rw [sem_succ S.text]; exact s_text c n []) rfl
theorem c_is_text (k : Nat) {cs : List (List Nat)} {t : List Nat} (c : Ctr cs) (ht : Tx cs t) (h : Hp) : callV (sem P (k + 1)) Lib.counters.f_is_text [.val (cD cs), .val (.str t)] h = .ok (.val (.bl true)) h :=
  call_val (by simp [Rv.free, D.free]) rfl (hc := []) (by rw [sem_succ S.istx]; exact s_is_text c ht []) rfl
theorem c_number (k : Nat) {cs : List (List Nat)} {t : List Nat} (c : Ctr cs) (ht : Tx cs t) (h : Hp) : callV (sem P (k + 1)) Lib.counters.f_number_in [.val (cD cs), .val (.str t)] h = .ok (.val (.int (nm cs t))) h :=
  call_val (by simp [Rv.free, D.free]) rfl (hc := []) (by rw [sem_succ S.num]; exact s_number c ht []) rfl
theorem c_dial (k : Nat) {s : List Nat} (d : DialOk s) (h : Hp) : callV (sem P (k + 1)) Lib.counters.f_is_dial [.val (.str s)] h = .ok (.val (.bl true)) h :=
  call_val rfl rfl (hc := []) (by rw [sem_succ S.dial]; exact d.run _) rfl
omit S in
theorem comp_dial {g : D → Hp → R (List D)} (h : Hp) : ∀ cs : List (List Nat), (∀ s ∈ cs, g (.str s) h = .ok [.bl true] h) → compL [] g (cs.map .str) h = .ok (List.replicate cs.length (.bl true)) h
  | [], _ => rfl
  | s :: r, H => by
    have i := comp_dial h r fun t ht => H t (by simp [ht])
    simp only [List.map_cons, compL, same, H s (by simp), i, List.length_cons, List.replicate_succ, List.singleton_append]
theorem c_is_counter (k : Nat) {cs : List (List Nat)} (c : Ctr cs) (h : Hp) : callV (sem P (k + 2)) Lib.counters.f_is_counter [.val (cD cs)] h = .ok (.val (.bl true)) h := by
  refine call_val (by simp [Rv.free]) rfl (hc := []) ?_ rfl
  rw [sem_succ S.isc]
  have le := c.le
  have ne := c.ne
  refine runFn_eq (ρ := [some (cD cs), none]) ?_ rfl rfl
  have l2 := fun h => len_cD (cs := cs) (by omega) h
  have rl : (List.replicate cs.length (D.bl true)).length ≤ lim := by simp only [List.length_replicate, lim]; omega
  have lc : ev (sem P (k + 1)) (.lc [1] (.one 1) (.seq (.var 0)) .nil (.call Lib.counters.f_is_dial (.cons (.var 1) .nil))) [some (cD cs), none] [] = .ok (.new (.lst (List.replicate cs.length (.bl true)))) [] := by
    rw [ev_lc, seq_cD 0 rfl]
    simp only [r_bind]
    rw [comp_dial [] cs fun s hs => ?_]
    · simp only [r_bind, decide_eq_true rl, r_when]
    · have bt : bindTg (wipeE [some (cD cs), none] [1]) (.one 1) (.str s) = some [some (cD cs), some (.str s)] := rfl
      simp only [lcF, bt, tsts, r_bind, ev, evs, List.getElem?_cons_succ, List.getElem?_cons_zero, c_dial S k (c.ok s hs), boxOne]
  have eb : Lib.counters.b_is_counter = .cons (.ife (.or (.not (.isi (.var 0) .tuple)) (.not (.ch .le .le (.c (.int 1)) (.b1 .len (.var 0)) (.glb 21 Lib.counters.k_MOST_DIALS)))) (.cons (.ret (.c (.bl false))) .nil) .nil) (.cons (.ret (.b1 .all (.lc [1] (.one 1) (.seq (.var 0)) .nil (.call Lib.counters.f_is_dial (.cons (.var 1) .nil))))) .nil) := rfl
  have a1 : ¬ ((cs.length : Int) < 1) := by omega
  have a2 : ¬ ((12 : Int) < (cs.length : Int)) := by omega
  have ty : tyIs .tuple (.val (cD cs)) [] = some true := rfl
  have e1 : ex (sem P (k + 1)) (.ife (.or (.not (.isi (.var 0) .tuple)) (.not (.ch .le .le (.c (.int 1)) (.b1 .len (.var 0)) (.glb 21 Lib.counters.k_MOST_DIALS)))) (.cons (.ret (.c (.bl false))) .nil) .nil) [some (cD cs), none] [] = .nx [some (cD cs), none] [] := by
    simp [ex, tst, ev, ty, l2, exs, Lib.counters.k_MOST_DIALS, a1, a2]
  rw [eb]
  generalize E.lc [1] (.one 1) (.seq (.var 0)) .nil (.call Lib.counters.f_is_dial (.cons (.var 1) .nil)) = q at lc ⊢
  simp only [exs, e1]
  simp only [ex, ev, lc, r_bind, all_rep, r_st]
theorem c_common (k : Nat) {x y : Int} (yB : y.natAbs < 2 ^ 200) (h : Hp) : callV (sem P (k + 1)) Lib.runs.f_common [.val (.int x), .val (.int y)] h = .ok (.val (.int (Nat.gcd x.natAbs y.natAbs : Nat))) h := by
  refine call_val rfl rfl (hc := []) ?_ rfl
  rw [sem_succ S.common]
  have b : ∀ i : Int, b1V [] .abs (.val (.int i)) = .ok (.val (.int (i.natAbs : Nat))) [] := fun i => by
    have : (if i < 0 then -i else i) = ((i.natAbs : Nat) : Int) := by
      split <;> omega
    show R.ok _ _ = _
    rw [this]
  have eb : Lib.runs.b_common = .cons (.asgT [0, 1] (.tup (.cons (.b1 .abs (.var 0)) (.cons (.b1 .abs (.var 1)) .nil)))) gcdB := rfl
  refine runFn_eq (ρ := [some (.int x), some (.int y)]) ?_ rfl rfl
  have e1 : ex (sem P k) (.asgT [0, 1] (.tup (.cons (.b1 .abs (.var 0)) (.cons (.b1 .abs (.var 1)) .nil)))) [some (.int x), some (.int y)] [] = .nx [some (.int (x.natAbs : Nat)), some (.int (y.natAbs : Nat))] [] := by
    simp [ex, ev, evs, b, boxAll, boxOne, bindTg]
  rw [eb]
  simp only [exs, e1]
  have yb : ((y.natAbs : Nat) : Int) < 2 ^ 200 := by exact_mod_cast yB
  have := s_gcdB (C := sem P k) (x := (x.natAbs : Nat)) (y := (y.natAbs : Nat)) (h := []) (by omega) (by omega) yb
  simpa using this
/-! ### the inverse -/
omit S in
theorem abs_mul_le {a b : Int} {x : Int} (h0 : 0 ≤ x) (h : a.natAbs ≤ b.natAbs) : (a.natAbs : Int) * x ≤ (b.natAbs : Int) * x := Int.mul_le_mul_of_nonneg_right (by omega) h0
def ivT : E := .cmp .ne (.var 3) (.c (.int 0))
def ivW : Ss := .cons (.asg 6 (.bin .fdiv (.var 2) (.var 3))) (.cons (.asgT [2, 3] (.tup (.cons (.var 3) (.cons (.bin .sub (.var 2) (.bin .mul (.var 6) (.var 3))) .nil)))) (.cons (.asgT [4, 5] (.tup (.cons (.var 5) (.cons (.bin .sub (.var 4) (.bin .mul (.var 6) (.var 5))) .nil)))) .nil))
structure Iv (one W x y : Int) (ρ : Env) : Prop where
  ex : ∃ (f s : Int) (o : Option D), ρ = [some (.int one), some (.int W), some (.int x), some (.int y), some (.int f), some (.int s), o] ∧ W ∣ f * one - x ∧ W ∣ s * one - y ∧ (s.natAbs : Int) * x + (f.natAbs : Int) * y ≤ W ∧ f.natAbs ≤ W.natAbs ∧ s.natAbs ≤ W.natAbs ∧ x ≤ W ∧ y ≤ W
theorem c_inverse (k : Nat) {one W : Int} (wp : 0 < W) (wb : W < 2 ^ 200) (co : ∀ d : Nat, (d : Int) ∣ one → (d : Int) ∣ W → d = 1) : ∃ inv : Int, 0 ≤ inv ∧ inv < W ∧ W ∣ inv * one - 1 ∧ ∀ h, callV (sem P (k + 1)) Lib.runs.f_inverse [.val (.int one), .val (.int W)] h = .ok (.val (.int inv)) h := by
  have m0 := Int.emod_nonneg one (show W ≠ 0 by omega)
  have m1 := Int.emod_lt_of_pos one wp
  have i0 : Iv one W (one % W) W [some (.int one), some (.int W), some (.int (one % W)), some (.int W), some (.int 1), some (.int 0), none] := by
    refine ⟨1, 0, none, rfl, ?_, ?_, by simp, by simp; omega, by simp, by omega, by omega⟩
    · rw [Int.one_mul]; exact Int.dvd_self_sub_emod
    · rw [Int.zero_mul, Int.zero_sub]; exact Int.dvd_neg.mpr (Int.dvd_refl _)
  have w := euc (test := tst (sem P k) ivT) (body := exs (sem P k) ivW) (h := []) (Iv one W) (fun x y ρ hi x0 yp => by
      obtain ⟨f, s, o, rfl, d1, d2, le, fb, sb, xb, yb⟩ := hi
      have yn : ¬ y = 0 := by omega
      refine ⟨by simp [ivT, tst, ev, yn], [some (.int one), some (.int W), some (.int y), some (.int (x % y)), some (.int s), some (.int (f - x / y * s)), some (.int (x / y))], ?_, ?_⟩
      · have dv : divOk y = true := divOk_of 200 yp (nat_lt (by omega) (by omega)) (by omega)
        have t0 : 0 ≤ x / y := Int.ediv_nonneg x0 (by omega)
        have t1 : x / y ≤ x := Int.ediv_le_self _ x0
        have mo1 : mulOk (x / y) y = true := mulOk_of 200 200 (nat_lt t0 (by omega)) (nat_lt (by omega) (by omega)) (by omega)
        have wn : W.natAbs < 2 ^ 200 := nat_lt (by omega) wb
        have mo2 : mulOk (x / y) s = true := mulOk_of 200 200 (nat_lt t0 (by omega)) (by omega) (by omega)
        have em : x - x / y * y = x % y := by
          have := Int.mul_ediv_add_emod x y
          rw [Int.mul_comm] at this
          omega
        simp [ivW, exs, ex, ev, evs, dv, boxOne, boxAll, bindTg, mo1, mo2, em]
      · have t0 : 0 ≤ x / y := Int.ediv_nonneg x0 (by omega)
        have em : x % y = x - x / y * y := by
          have := Int.mul_ediv_add_emod x y
          rw [Int.mul_comm] at this
          omega
        have q0 := Int.emod_nonneg x (show y ≠ 0 by omega)
        have q1 := Int.emod_lt_of_pos x yp
        have tri : ((f - x / y * s).natAbs : Int) ≤ (f.natAbs : Int) + x / y * (s.natAbs : Int) := by
          have a1 : (f - x / y * s).natAbs ≤ f.natAbs + (x / y * s).natAbs := Int.natAbs_sub_le ..
          have a2 : (x / y * s).natAbs = (x / y).natAbs * s.natAbs := Int.natAbs_mul ..
          have a3 : ((x / y * s).natAbs : Int) = x / y * (s.natAbs : Int) := by
            rw [a2, Int.natCast_mul]
            have : ((x / y).natAbs : Int) = x / y := by omega
            rw [this]
          omega
        have le2 : ((f - x / y * s).natAbs : Int) * y + (s.natAbs : Int) * (x % y) ≤ W := by
          have b1 : ((f - x / y * s).natAbs : Int) * y ≤ ((f.natAbs : Int) + x / y * (s.natAbs : Int)) * y := Int.mul_le_mul_of_nonneg_right tri (by omega)
          have b2 : ((f.natAbs : Int) + x / y * (s.natAbs : Int)) * y + (s.natAbs : Int) * (x % y) = (s.natAbs : Int) * x + (f.natAbs : Int) * y := by
            rw [em, Int.add_mul, Int.mul_sub]
            have : x / y * (s.natAbs : Int) * y = (s.natAbs : Int) * (x / y * y) := by rw [Int.mul_comm (x / y), Int.mul_assoc]
            omega
          omega
        have nn : 0 ≤ (s.natAbs : Int) * (x % y) := Int.mul_nonneg (by omega) q0
        have sb2 : ((f - x / y * s).natAbs : Int) * 1 ≤ ((f - x / y * s).natAbs : Int) * y := Int.mul_le_mul_of_nonneg_left (by omega) (by omega)
        refine ⟨s, f - x / y * s, some (.int (x / y)), rfl, d2, ?_, le2, sb, by omega, by omega, by omega⟩
        have : (f - x / y * s) * one - x % y = (f * one - x) - x / y * (s * one - y) := by
          rw [em, Int.sub_mul, Int.mul_sub, Int.mul_assoc]
          omega
        rw [this]
        exact Int.dvd_sub d1 (Int.dvd_mul_of_dvd_right d2)) (fun x ρ hi => by
      obtain ⟨f, s, o, rfl, _⟩ := hi
      simp [ivT, tst, ev]) 200 (one % W) W fuel _ m0 (by omega) wb (by simp only [fuel]; omega) i0
  obtain ⟨ρ', e, hi⟩ := w
  have g1 : Nat.gcd (one % W).toNat W.toNat = 1 := by
    have c1 : ((Nat.gcd (one % W).toNat W.toNat : Nat) : Int) ∣ one % W := by
      have := Int.natCast_dvd_natCast.mpr (Nat.gcd_dvd_left (one % W).toNat W.toNat)
      rw [Int.toNat_of_nonneg m0] at this
      exact this
    have c2 : ((Nat.gcd (one % W).toNat W.toNat : Nat) : Int) ∣ W := by
      have := Int.natCast_dvd_natCast.mpr (Nat.gcd_dvd_right (one % W).toNat W.toNat)
      rw [Int.toNat_of_nonneg (show 0 ≤ W by omega)] at this
      exact this
    refine co _ ?_ c2
    have e5 := Int.mul_ediv_add_emod one W
    have d5 := Int.dvd_add (Int.dvd_mul_of_dvd_left (c := one / W) c2) c1
    rw [e5] at d5
    exact d5
  rw [g1] at hi
  obtain ⟨f, s, o, rfl, d1, _⟩ := hi
  refine ⟨f % W, Int.emod_nonneg _ (by omega), Int.emod_lt_of_pos _ wp, ?_, fun h => ?_⟩
  · have e1 := Int.mul_ediv_add_emod f W
    have : f % W * one - 1 = (f * one - 1) - W * (f / W * one) := by
      have : f * one = W * (f / W * one) + f % W * one := by
        conv => lhs; rw [← e1]
        rw [Int.add_mul, Int.mul_assoc]
      omega
    rw [this]
    exact Int.dvd_sub d1 (Int.dvd_mul_right _ _)
  · refine call_val rfl rfl (hc := []) ?_ rfl
    rw [sem_succ S.inverse]
    refine runFn_eq (ρ := [some (.int one), some (.int W), none, none, none, none, none]) ?_ rfl rfl
    have eb : Lib.runs.b_inverse = .cons (.asgT [2, 3, 4, 5] (.tup (.cons (.bin .mod (.b1 .int (.var 0)) (.var 1)) (.cons (.var 1) (.cons (.c (.int 1)) (.cons (.c (.int 0)) .nil)))))) (.cons (.whl ivT ivW) (.cons (.ret (.bin .mod (.b1 .int (.var 4)) (.var 1))) .nil)) := rfl
    have e1 : ex (sem P k) (.asgT [2, 3, 4, 5] (.tup (.cons (.bin .mod (.b1 .int (.var 0)) (.var 1)) (.cons (.var 1) (.cons (.c (.int 1)) (.cons (.c (.int 0)) .nil)))))) [some (.int one), some (.int W), none, none, none, none, none] [] = .nx [some (.int one), some (.int W), some (.int (one % W)), some (.int W), some (.int 1), some (.int 0), none] [] := by
      simp [ex, ev, evs, boxOne, boxAll, bindTg, wp]
    have e2 : ex (sem P k) (.whl ivT ivW) [some (.int one), some (.int W), some (.int (one % W)), some (.int W), some (.int 1), some (.int 0), none] [] = .nx [some (.int one), some (.int W), some (.int ((1 : Nat) : Int)), some (.int 0), some (.int f), some (.int s), o] [] := by
      simp only [ex]
      exact e
    rw [eb]
    simp only [exs, e1, e2]
    simp [ex, ev, wp]
end
end G

/-! LE: what the defs of runs give. -/
namespace G
open PC
structure Rn where
  cs : List (List Nat)
  b : Int
  st : Int
  many : Int
  cop : Int
structure RnOk (r : Rn) : Prop where
  c : Ctr r.cs
  b0 : 0 ≤ r.b
  b1 : r.b < csz r.cs
  s0 : -1000000000000000000 ≤ r.st
  s1 : r.st ≤ 1000000000000000000
  m0 : 1 ≤ r.many
  m1 : r.many ≤ 1000000000000000000000000000000
  c0 : 1 ≤ r.cop
  c1 : r.cop ≤ 1000
def rD (r : Rn) : D := .tup [cD r.cs, .int r.b, .int r.st, .int r.many, .int r.cop]
@[simp] theorem rD_free (r : Rn) : (rD r).free = true := by simp [rD, D.free, D.frees]
theorem co_par {W st g : Int} (p : Par W st g) : ∀ d : Nat, (d : Int) ∣ st / g → (d : Int) ∣ W / g → d = 1 := fun d h1 h2 => by
  have gp := p.pos
  have a1 : g * d ∣ W := by
    have := (dvd_iff (a := (d : Int)) (b := W / g) (c := g) (by omega)).mpr h2
    rw [p.mul] at this
    exact this
  have a2 : g * d ∣ st := by
    have := (dvd_iff (a := (d : Int)) (b := st / g) (c := g) (by omega)).mpr h1
    rw [Int.mul_ediv_cancel' p.ds] at this
    exact this
  have gn : ((g.toNat : Nat) : Int) = g := Int.toNat_of_nonneg (by omega)
  have b1 : g.toNat * d ∣ W.natAbs := by
    have := Int.natAbs_dvd_natAbs.mpr a1
    rw [Int.natAbs_mul, Int.natAbs_natCast, show g.natAbs = g.toNat by omega] at this
    exact this
  have b2 : g.toNat * d ∣ st.natAbs := by
    have := Int.natAbs_dvd_natAbs.mpr a2
    rw [Int.natAbs_mul, Int.natAbs_natCast, show g.natAbs = g.toNat by omega] at this
    exact this
  have b3 := Nat.dvd_gcd b1 b2
  have e : Nat.gcd W.natAbs st.natAbs = g.toNat := by have := p.eq; omega
  rw [e] at b3
  have b4 : g.toNat * d ∣ g.toNat * 1 := by rw [Nat.mul_one]; exact b3
  exact Nat.dvd_one.mp ((Nat.mul_dvd_mul_iff_left (by omega)).mp b4)
theorem IsSer.of_hit {W b st n s : Int} {o : Option Int} (h : IsSer W b st n o) (e : (b + s * st) % W = n) : o = some (s % rnd W st) := by
  cases o with
  | none => exact absurd e (h s)
  | some f => rw [(h.2.2 s).mp e]
section
variable {P : Nat → Option Fn} (S : PRun P)
include S
theorem c_shown (k : Nat) {cs : List (List Nat)} (c : Ctr cs) {b st s : Int} (sb : s.natAbs < 2 ^ 200) (tb : st.natAbs < 2 ^ 200) (h : Hp) : callV (sem P (k + 2)) Lib.runs.f_number_shown [.val (cD cs), .val (.int b), .val (.int st), .val (.int s)] h = .ok (.val (.int ((b + s * st) % csz cs))) h := by
  refine call_val (by simp [Rv.free, D.free]) rfl (hc := []) ?_ rfl
  rw [sem_succ S.shown]
  have cp := c.pos
  have m : mulOk s st = true := mulOk_of 200 200 sb tb (by omega)
  have wp : 0 < csz cs := by omega
  simp [Lib.runs.fn_number_shown, Lib.runs.b_number_shown, runFn, exs, ex, ev, evs, m, c_size S k c, wp]
theorem par_of {cs : List (List Nat)} (c : Ctr cs) (st : Int) : Par (csz cs) st (Nat.gcd (csz cs).natAbs st.natAbs : Nat) := ⟨by have := c.pos; omega, rfl⟩
omit S in
theorem rnd_le {W st : Int} (w : 0 < W) : 1 ≤ rnd W st ∧ rnd W st ≤ W := by
  have p : Par W st (Nat.gcd W.natAbs st.natAbs : Nat) := ⟨w, rfl⟩
  have := p.rpos
  have := p.mul
  have gp := p.pos
  rw [p.rw']
  refine ⟨by omega, ?_⟩
  have : 1 * (W / (Nat.gcd W.natAbs st.natAbs : Nat)) ≤ (Nat.gcd W.natAbs st.natAbs : Nat) * (W / (Nat.gcd W.natAbs st.natAbs : Nat)) := Int.mul_le_mul_of_nonneg_right (by omega) (by omega)
  omega
omit S in
theorem g_le {W st : Int} (w : 0 < W) : ((Nat.gcd W.natAbs st.natAbs : Nat) : Int) ≤ W := by
  have := Nat.le_of_dvd (by omega) (Nat.gcd_dvd_left W.natAbs st.natAbs)
  omega
theorem c_round (k : Nat) {cs : List (List Nat)} (c : Ctr cs) {st : Int} (tb : st.natAbs < 2 ^ 200) (h : Hp) : callV (sem P (k + 2)) Lib.runs.f_round_in [.val (cD cs), .val (.int st)] h = .ok (.val (.int (rnd (csz cs) st))) h := by
  refine call_val (by simp [Rv.free, D.free]) rfl (hc := []) ?_ rfl
  rw [sem_succ S.round]
  have cp := c.pos
  have cl := c.lt
  have p := par_of S c st
  have gp := p.pos
  have gl := g_le (st := st) p.w
  have dv : divOk (Nat.gcd (csz cs).natAbs st.natAbs : Nat) = true := divOk_of 100 gp (by omega) (by omega)
  have cc := fun h => c_common S k (x := csz cs) tb h
  refine runFn_eq (ρ := [some (cD cs), some (.int st)]) ?_ rfl rfl
  simp only [Lib.runs.b_round_in, exs, ex, ev, evs, List.getElem?_cons_zero, List.getElem?_cons_succ, r_bind, c_size S k c, cc, bin_fdiv, dv, r_when, r_st]
  rfl
theorem c_serial (k : Nat) {cs : List (List Nat)} (c : Ctr cs) {b st n : Int} (tb : st.natAbs < 2 ^ 200) (n0 : 0 ≤ n) (n1 : n < csz cs) : ∃ o, IsSer (csz cs) b st n o ∧ ∀ h, callV (sem P (k + 2)) Lib.runs.f_serial_with [.val (cD cs), .val (.int b), .val (.int st), .val (.int n)] h = .ok (.val (optD o)) h := by
  have cp := c.pos
  have cl := c.lt
  have p := par_of S c st
  have gp := p.pos
  have gl := g_le (st := st) p.w
  have rp := p.rpos
  have rl := rnd_le (st := st) p.w
  rw [p.rw'] at rl
  have cc := fun h => c_common S k (x := csz cs) tb h
  generalize hg : ((Nat.gcd (csz cs).natAbs st.natAbs : Nat) : Int) = g at *
  obtain ⟨inv, i0, i1, id, ci⟩ := c_inverse S k (one := st / g) (W := csz cs / g) rp (by omega) (co_par p)
  refine ⟨_, ser_ok (b := b) p n0 n1 id, fun h => ?_⟩
  have fo : (optD (if (n - b) % csz cs % g = 0 then some ((n - b) % csz cs / g * inv % (csz cs / g)) else none)).free = true := optD_free _
  refine call_val (by simp [Rv.free, D.free]) rfl (hc := []) ?_ fo
  rw [sem_succ S.serial]
  refine runFn_eq (ρ := [some (cD cs), some (.int b), some (.int st), some (.int n), none, none, none]) ?_ rfl rfl
  have wp : 0 < csz cs := by omega
  have dv : divOk g = true := divOk_of 100 gp (nat_lt (by omega) (by omega)) (by omega)
  have r0 := Int.emod_nonneg (n - b) (show csz cs ≠ 0 by omega)
  have r1 := Int.emod_lt_of_pos (n - b) wp
  generalize hr : (n - b) % csz cs = r at *
  have q0 : 0 ≤ r / g := Int.ediv_nonneg r0 (by omega)
  have q1 : r / g ≤ r := Int.ediv_le_self _ r0
  have mo : mulOk (r / g) inv = true := mulOk_of 100 100 (nat_lt q0 (by omega)) (nat_lt i0 (by omega)) (by omega)
  by_cases z : r % g = 0
  · simp [Lib.runs.b_serial_with, exs, ex, ev, evs, tst, boxOne, c_size S k c, cc, wp, hr, gp, z, dv, ci, mo, rp, optD]
  · simp [Lib.runs.b_serial_with, exs, ex, ev, evs, tst, boxOne, c_size S k c, cc, wp, hr, gp, z, optD]
end
/-- the defs of runs that take runs -/
structure PRun2 (P : Nat → Option Fn) : Prop extends PRun P where
  need : P Lib.runs.f_need_run = some Lib.runs.fn_need_run
  ntext : P Lib.runs.f_need_text = some Lib.runs.fn_need_text
  label : P Lib.runs.f_label = some Lib.runs.fn_label
  rof : P Lib.runs.f_round_of = some Lib.runs.fn_round_of
  times : P Lib.runs.f_times = some Lib.runs.fn_times
  next : P Lib.runs.f_next_label = some Lib.runs.fn_next_label
section
variable {P : Nat → Option Fn} (S : PRun2 P)
include S
theorem c_need_run (k : Nat) {r : Rn} (o : RnOk r) (h : Hp) : callV (sem P (k + 3)) Lib.runs.f_need_run [.val (rD r)] h = .ok (.val (rD r)) h := by
  refine call_val (by simp [Rv.free, D.free]) rfl (hc := []) ?_ (by simp)
  rw [sem_succ S.need]
  refine runFn_eq (ρ := [some (rD r)]) ?_ rfl rfl
  have w2 := fun x l m h => c_is_whole2 (P := P) S.whole (k + 1) x l m h
  have ci := fun h => c_is_counter S.toPRun k o.c h
  have cz := fun h => c_size S.toPRun (k + 1) o.c h
  have e0 := o.b0
  have e1 : r.b ≤ csz r.cs - 1 := by have := o.b1; omega
  have e2 := o.s0
  have e3 := o.s1
  have e4 := o.m0
  have e5 := o.m1
  have e6 := o.c0
  have e7 := o.c1
  simp [Lib.runs.b_need_run, exs, ex, ev, evs, tst, rD, tyIs, e_len, lenOf, idxV, atI, ixN, w2, ci, cz, e0, e1, e2, e3, e4, e5, e6, e7, Lib.runs.k_MOST_STEP, Lib.runs.k_MOST_SERIALS, Lib.runs.k_MOST_COPIES]
/-- the number that a label shows -/
def shw (r : Rn) (i : Int) : Int := (r.b + i / r.cop * r.st) % csz r.cs
omit S in
theorem stb {r : Rn} (o : RnOk r) : r.st.natAbs < 2 ^ 200 := by
  have e2 := o.s0
  have e3 := o.s1
  omega
omit S in
theorem mc {r : Rn} (o : RnOk r) : mulOk r.many r.cop = true := by
  have e4 := o.m0
  have e5 := o.m1
  have e6 := o.c0
  have e7 := o.c1
  exact mulOk_of 200 200 (nat_lt (by omega) (by omega)) (nat_lt (by omega) (by omega)) (by omega)
omit S in
theorem mcb {r : Rn} (o : RnOk r) : r.many * r.cop ≤ 1000000000000000000000000000000000 := by
  have e4 := o.m0
  have e5 := o.m1
  have e6 := o.c0
  have e7 := o.c1
  have : r.many * r.cop ≤ 1000000000000000000000000000000 * 1000 := Int.mul_le_mul e5 e7 (by omega) (by omega)
  omega
omit S in
theorem dvc {r : Rn} (o : RnOk r) : divOk r.cop = true := by
  have e6 := o.c0
  have e7 := o.c1
  exact divOk_of 200 (by omega) (nat_lt (by omega) (by omega)) (by omega)
theorem c_label (k : Nat) {r : Rn} (o : RnOk r) {i : Int} (i0 : 0 ≤ i) (i1 : i < r.many * r.cop) (h : Hp) : callV (sem P (k + 4)) Lib.runs.f_label [.val (rD r), .val (.int i)] h = .ok (.val (.str (PC.tx r.cs (shw r i)))) h := by
  refine call_val (by simp [Rv.free, D.free]) rfl (hc := []) ?_ (by simp [D.free])
  rw [sem_succ S.label]
  refine runFn_eq (ρ := [some (rD r), some (.int i), none, none, none, none, none]) ?_ rfl rfl
  have cn := fun h => c_need_run S k o h
  have e6 := o.c0
  have mb := mcb o
  have q0 : 0 ≤ i / r.cop := Int.ediv_nonneg i0 (by omega)
  have q1 : i / r.cop ≤ i := Int.ediv_le_self _ i0
  have w2 := fun x l m h => c_is_whole2 (P := P) S.whole (k + 2) x l m h
  have cs := fun h => c_shown S.toPRun (k + 1) o.c (b := r.b) (st := r.st) (s := i / r.cop) (nat_lt q0 (by omega)) (stb o) h
  have ct := fun n h => c_text S.toPRun (k + 2) o.c n h
  have i2 : i ≤ r.many * r.cop - 1 := by omega
  have e1 : ex (sem P (k + 3)) (.asgT [2, 3, 4, 5, 6] (.call Lib.runs.f_need_run (.cons (.var 0) .nil))) [some (rD r), some (.int i), none, none, none, none, none] [] = .nx [some (rD r), some (.int i), some (cD r.cs), some (.int r.b), some (.int r.st), some (.int r.many), some (.int r.cop)] [] := by
    simp only [ex, ev, evs, List.getElem?_cons_zero, r_bind, cn, r_st]
    rfl
  simp only [Lib.runs.b_label, exs, e1]
  simp [exs, ex, ev, evs, tst, w2, mc o, i0, i2, dvc o, cs, ct, shw]
theorem c_round_of (k : Nat) {r : Rn} (o : RnOk r) (h : Hp) : callV (sem P (k + 4)) Lib.runs.f_round_of [.val (rD r)] h = .ok (.val (.int (rnd (csz r.cs) r.st))) h := by
  refine call_val (by simp [Rv.free, D.free]) rfl (hc := []) ?_ (by simp [D.free])
  rw [sem_succ S.rof]
  refine runFn_eq (ρ := [some (rD r)]) ?_ rfl rfl
  have cn := fun h => c_need_run S k o h
  have cr := fun h => c_round S.toPRun (k + 1) o.c (stb o) h
  have i0 : ∀ h, idxV h (.val (rD r)) (.val (.int 0)) = .ok (.val (cD r.cs)) h := fun h => rfl
  have i2 : ∀ h, idxV h (.val (rD r)) (.val (.int 2)) = .ok (.val (.int r.st)) h := fun h => rfl
  simp [Lib.runs.b_round_of, exs, ex, ev, evs, cn, i0, i2, cr]
theorem c_need_text (k : Nat) {cs : List (List Nat)} {t : List Nat} (c : Ctr cs) (ht : Tx cs t) (h : Hp) : callV (sem P (k + 2)) Lib.runs.f_need_text [.val (cD cs), .val (.str t)] h = .ok (.val .non) h := by
  refine call_val (by simp [Rv.free, D.free]) rfl (hc := []) ?_ (by simp [D.free])
  rw [sem_succ S.ntext]
  refine runFn_nx (ρ := [some (cD cs), some (.str t)]) (ρ' := [some (cD cs), some (.str t)]) ?_ rfl rfl
  simp [Lib.runs.b_need_text, exs, ex, ev, evs, tst, c_is_text S.toPRun k c ht]
def tms (r : Rn) : Option Int → Int
  | none => 0
  | some f => if r.many ≤ f then 0 else ((r.many - 1 - f) / rnd (csz r.cs) r.st + 1) * r.cop
theorem c_tms (k : Nat) {r : Rn} (o : RnOk r) {n : Int} (n0 : 0 ≤ n) (n1 : n < csz r.cs) : ∃ f, IsSer (csz r.cs) r.b r.st n f ∧ ∀ h, callV (sem P (k + 4)) Lib.runs.f_times [.val (rD r), .val (.str (PC.tx r.cs n))] h = .ok (.val (.int (tms r f))) h := by
  have ht := tx_Tx o.c.dls n
  have en : nm r.cs (PC.tx r.cs n) = n := by rw [nm_tx o.c.dls, Int.emod_eq_of_lt n0 n1]
  obtain ⟨f, hf, cs⟩ := c_serial S.toPRun (k + 1) o.c (b := r.b) (st := r.st) (stb o) n0 n1
  refine ⟨f, hf, fun h => ?_⟩
  generalize PC.tx r.cs n = t at *
  refine call_val (by simp [Rv.free, D.free]) rfl (hc := []) ?_ (by simp [D.free])
  rw [sem_succ S.times]
  refine runFn_eq (ρ := [some (rD r), some (.str t), none, none, none, none, none, none]) ?_ rfl rfl
  have cn := fun h => c_need_run S k o h
  have ct := fun h => c_need_text S (k + 1) o.c ht h
  have cm := fun h => c_number S.toPRun (k + 2) o.c ht h
  have cr := fun h => c_round S.toPRun (k + 1) o.c (stb o) h
  rw [en] at cm
  have cp := o.c.pos
  have cl := o.c.lt
  have rl := rnd_le (st := r.st) (show 0 < csz r.cs by omega)
  have e4 := o.m0
  have e5 := o.m1
  have e6 := o.c0
  have e7 := o.c1
  have dv : divOk (rnd (csz r.cs) r.st) = true := divOk_of 100 (by omega) (nat_lt (by omega) (by omega)) (by omega)
  have e1 : ex (sem P (k + 3)) (.asgT [3, 4, 5, 6, 7] (.call Lib.runs.f_need_run (.cons (.var 0) .nil))) [some (rD r), some (.str t), none, none, none, none, none, none] [] = .nx [some (rD r), some (.str t), none, some (cD r.cs), some (.int r.b), some (.int r.st), some (.int r.many), some (.int r.cop)] [] := by
    simp only [ex, ev, evs, List.getElem?_cons_zero, r_bind, cn, r_st]
    rfl
  simp only [Lib.runs.b_times, exs, e1]
  cases f with
  | none => simp [exs, ex, ev, evs, tst, ct, cm, cs, boxOne, optD, tms]
  | some f =>
    simp only [optD] at cs
    by_cases z : r.many ≤ f
    · have z' : ¬ f < r.many := by omega
      simp [exs, ex, ev, evs, tst, ct, cm, cs, boxOne, z, z', tms]
    · have z' : f < r.many := by omega
      have f0 := hf.1
      have q0 : 0 ≤ (r.many - 1 - f) / rnd (csz r.cs) r.st := Int.ediv_nonneg (by omega) (by omega)
      have q1 : (r.many - 1 - f) / rnd (csz r.cs) r.st ≤ r.many - 1 - f := Int.ediv_le_self _ (by omega)
      have mo : mulOk ((r.many - 1 - f) / rnd (csz r.cs) r.st + 1) r.cop = true := mulOk_of 200 200 (nat_lt (by omega) (by omega)) (nat_lt (by omega) (by omega)) (by omega)
      simp [exs, ex, ev, evs, tst, ct, cm, cs, cr, boxOne, z, z', tms, dv, mo]
/-- the first label from one on -/
def nxl (r : Rn) (i : Int) : Option Int → Option Int
  | none => none
  | some f =>
    let s := if i / r.cop ≤ f then f else f + (i / r.cop - f + rnd (csz r.cs) r.st - 1) / rnd (csz r.cs) r.st * rnd (csz r.cs) r.st
    let x := if s * r.cop > i then s * r.cop else i
    if x < r.many * r.cop then some x else none
theorem c_next (k : Nat) {r : Rn} (o : RnOk r) {n i : Int} (n0 : 0 ≤ n) (n1 : n < csz r.cs) (i0 : 0 ≤ i) (i1 : i < 2 ^ 200) : ∃ f, IsSer (csz r.cs) r.b r.st n f ∧ ∀ h, callV (sem P (k + 4)) Lib.runs.f_next_label [.val (rD r), .val (.str (PC.tx r.cs n)), .val (.int i)] h = .ok (.val (optD (nxl r i f))) h := by
  have ht := tx_Tx o.c.dls n
  have en : nm r.cs (PC.tx r.cs n) = n := by rw [nm_tx o.c.dls, Int.emod_eq_of_lt n0 n1]
  obtain ⟨f, hf, cs⟩ := c_serial S.toPRun (k + 1) o.c (b := r.b) (st := r.st) (stb o) n0 n1
  refine ⟨f, hf, fun h => ?_⟩
  generalize PC.tx r.cs n = t at *
  refine call_val (by simp [Rv.free, D.free]) rfl (hc := []) ?_ (optD_free _)
  rw [sem_succ S.next]
  refine runFn_eq (ρ := [some (rD r), some (.str t), some (.int i), none, none, none, none, none, none, none, none, none, none]) ?_ rfl rfl
  have cn := fun h => c_need_run S k o h
  have ct := fun h => c_need_text S (k + 1) o.c ht h
  have cm := fun h => c_number S.toPRun (k + 2) o.c ht h
  have cr := fun h => c_round S.toPRun (k + 1) o.c (stb o) h
  have w := fun x l h => c_is_whole (P := P) S.whole (k + 2) x l h
  rw [en] at cm
  have cp := o.c.pos
  have cl := o.c.lt
  have rl := rnd_le (st := r.st) (show 0 < csz r.cs by omega)
  have e6 := o.c0
  have e7 := o.c1
  have dv : divOk (rnd (csz r.cs) r.st) = true := divOk_of 100 (by omega) (nat_lt (by omega) (by omega)) (by omega)
  have e1 : ex (sem P (k + 3)) (.asgT [6, 7, 8, 9, 10] (.call Lib.runs.f_need_run (.cons (.var 0) .nil))) [some (rD r), some (.str t), some (.int i), none, none, none, none, none, none, none, none, none, none] [] = .nx [some (rD r), some (.str t), some (.int i), none, none, none, some (cD r.cs), some (.int r.b), some (.int r.st), some (.int r.many), some (.int r.cop), none, none] [] := by
    simp only [ex, ev, evs, List.getElem?_cons_zero, r_bind, cn, r_st]
    rfl
  have bm : ∀ (h : Hp) (x y : Int), b2V h .max (.val (.int x)) (.val (.int y)) = .ok (.val (.int (if y > x then y else x))) h := fun h x y => rfl
  simp only [Lib.runs.b_next_label, exs, e1]
  have i0' : ¬ i < 0 := by omega
  cases f with
  | none => simp [exs, ex, ev, evs, tst, ct, cm, cs, cr, w, i0, i0', boxOne, boxAll, bindTg, optD, nxl]
  | some f =>
    simp only [optD] at cs
    have f0 := hf.1
    have f1 := hf.2.1
    have q0 : 0 ≤ i / r.cop := Int.ediv_nonneg i0 (by omega)
    have q1 : i / r.cop ≤ i := Int.ediv_le_self _ i0
    have fin : ∀ s : Int, 0 ≤ s → s < 2 ^ 300 → mulOk s r.cop = true := fun s s0 s1 => mulOk_of 300 200 (nat_lt s0 s1) (nat_lt (by omega) (by omega)) (by omega)
    by_cases z : i / r.cop ≤ f
    · have z' : ¬ f < i / r.cop := by omega
      have m1 := fin f f0 (by omega)
      by_cases y : (if f * r.cop > i then f * r.cop else i) < r.many * r.cop
      · have y' := y
        simp only [gt_iff_lt] at y'
        simp [exs, ex, ev, evs, tst, ct, cm, cs, cr, w, i0, i0', boxOne, boxAll, bindTg, nxl, z, z', dvc o, m1, bm, mc o, y', optD]
      · have y' := y
        simp only [gt_iff_lt] at y'
        simp [exs, ex, ev, evs, tst, ct, cm, cs, cr, w, i0, i0', boxOne, boxAll, bindTg, nxl, z, z', dvc o, m1, bm, mc o, y', optD]
    · have z' : f < i / r.cop := by omega
      generalize hq : (i / r.cop - f + rnd (csz r.cs) r.st - 1) / rnd (csz r.cs) r.st = q at *
      have p0 : 0 ≤ q := by rw [← hq]; exact Int.ediv_nonneg (by omega) (by omega)
      have p1 : q * rnd (csz r.cs) r.st ≤ i / r.cop - f + rnd (csz r.cs) r.st - 1 := by rw [← hq]; exact Int.ediv_mul_le _ (by omega)
      have p2 : 0 ≤ q * rnd (csz r.cs) r.st := Int.mul_nonneg p0 (by omega)
      have p3 : q * 1 ≤ q * rnd (csz r.cs) r.st := Int.mul_le_mul_of_nonneg_left (by omega) p0
      have m2 : mulOk q (rnd (csz r.cs) r.st) = true := mulOk_of 202 200 (nat_lt p0 (by omega)) (nat_lt (by omega) (by omega)) (by omega)
      have m1 := fin (f + q * rnd (csz r.cs) r.st) (by omega) (by omega)
      by_cases y : (if (f + q * rnd (csz r.cs) r.st) * r.cop > i then (f + q * rnd (csz r.cs) r.st) * r.cop else i) < r.many * r.cop
      · have y' := y
        simp only [gt_iff_lt] at y'
        simp [exs, ex, ev, evs, tst, ct, cm, cs, cr, w, i0, i0', boxOne, boxAll, bindTg, nxl, z, z', dvc o, dv, hq, m1, m2, bm, mc o, y', optD]
      · have y' := y
        simp only [gt_iff_lt] at y'
        simp [exs, ex, ev, evs, tst, ct, cm, cs, cr, w, i0, i0', boxOne, boxAll, bindTg, nxl, z, z', dvc o, dv, hq, m1, m2, bm, mc o, y', optD]
end
end G

/-! LF: more of counters; mathematics of runs. -/
namespace G
open PC
theorem cmp_isnN {h : Hp} (x : Rv) : cmpV h .isn x (.val .non) = .ok (.val (.bl (match x with | .val .non => false | _ => true))) h := rfl
/-- the defs that check counters -/
structure PNum (P : Nat → Option Fn) : Prop extends PRun P where
  needc : P Lib.counters.f_need_counter = some Lib.counters.fn_need_counter
  nof : P Lib.counters.f_number_of = some Lib.counters.fn_number_of
section
variable {P : Nat → Option Fn}
def ncB : Ss := .cons (.ife (.not (.call Lib.counters.f_is_dial (.cons (.var 2) .nil))) (.cons (.rse 4 (.cons (.var 1) .nil)) .nil) .nil) .nil
theorem c_dial0 (dial : P Lib.counters.f_is_dial = some Lib.counters.fn_is_dial) (k : Nat) {s : List Nat} (d : DialOk s) (h : Hp) : callV (sem P (k + 1)) Lib.counters.f_is_dial [.val (.str s)] h = .ok (.val (.bl true)) h :=
  call_val rfl rfl (hc := []) (by rw [sem_succ dial]; exact d.run _) rfl
theorem nc_loop (dial : P Lib.counters.f_is_dial = some Lib.counters.fn_is_dial) (k : Nat) (x : Option D) (h : Hp) : ∀ (cs : List (List Nat)), (∀ s ∈ cs, DialOk s) → ∀ (j : Int) (o o2 : Option D), ∃ o' o2', forL (fun d ρ => bindTg ρ (.many [1, 2]) d) [] (exs (sem P (k + 1)) ncB) (enumL j (cs.map .str)) [x, o, o2] h = .nx [x, o', o2'] h
  | [], _, j, o, o2 => ⟨o, o2, by simp [forL, same, enumL]⟩
  | s :: r, hk, j, o, o2 => by
    obtain ⟨o', o2', e⟩ := nc_loop dial k x h r (fun t ht => hk t (by simp [ht])) (j + 1) (some (.int j)) (some (.str s))
    refine ⟨o', o2', ?_⟩
    have cd := fun h => c_dial0 dial k (hk s (by simp)) h
    have st : exs (sem P (k + 1)) ncB [x, some (.int j), some (.str s)] h = .nx [x, some (.int j), some (.str s)] h := by
      simp [ncB, exs, ex, tst, ev, evs, cd]
    have bt : bindTg [x, o, o2] (.many [1, 2]) (.tup [.int j, .str s]) = some [x, some (.int j), some (.str s)] := rfl
    rw [List.map_cons]
    simp only [enumL, forL, same, bt, st, e]
theorem c_need_counter (dial : P Lib.counters.f_is_dial = some Lib.counters.fn_is_dial) (needc : P Lib.counters.f_need_counter = some Lib.counters.fn_need_counter) (k : Nat) {cs : List (List Nat)} (c : Ctr cs) (h : Hp) : callV (sem P (k + 2)) Lib.counters.f_need_counter [.val (cD cs)] h = .ok (.val (cD cs)) h := by
  refine call_val (by simp [Rv.free]) rfl (hc := []) ?_ (by simp)
  rw [sem_succ needc]
  have le := c.le
  have ne := c.ne
  obtain ⟨o', o2', e⟩ := nc_loop dial k (some (cD cs)) [] cs c.ok 0 none none
  refine runFn_eq (ρ := [some (cD cs), none, none]) ?_ rfl rfl
  have l2 := fun h => len_cD (cs := cs) (by omega) h
  have a1 : ¬ ((cs.length : Int) < 1) := by omega
  have a2 : ¬ ((12 : Int) < (cs.length : Int)) := by omega
  have ty : tyIs .tuple (.val (cD cs)) [] = some true := rfl
  have eb : Lib.counters.b_need_counter = .cons (.ife (.or (.not (.isi (.var 0) .tuple)) (.not (.ch .le .le (.c (.int 1)) (.b1 .len (.var 0)) (.glb 21 Lib.counters.k_MOST_DIALS)))) (.cons (.rse 4 (.cons (.c .non) .nil)) .nil) .nil) (.cons (.for_ (.many [1, 2]) (.enu (.var 0)) ncB) (.cons (.ret (.var 0)) .nil)) := rfl
  have e1 : ex (sem P (k + 1)) (.ife (.or (.not (.isi (.var 0) .tuple)) (.not (.ch .le .le (.c (.int 1)) (.b1 .len (.var 0)) (.glb 21 Lib.counters.k_MOST_DIALS)))) (.cons (.rse 4 (.cons (.c .non) .nil)) .nil) .nil) [some (cD cs), none, none] [] = .nx [some (cD cs), none, none] [] := by
    simp [ex, tst, ev, ty, l2, exs, Lib.counters.k_MOST_DIALS, a1, a2]
  have ei : evi (sem P (k + 1)) (.enu (.var 0)) [some (cD cs), none, none] [] = .ok (enumL 0 (cs.map .str), []) [] := by
    simp [evi, ev, cD, itemsOf, watch]
  rw [eb]
  simp only [exs, e1]
  rw [ex_for ei]
  dsimp only
  rw [e]
  simp [ex, ev]
theorem c_number_of0 (dial : P Lib.counters.f_is_dial = some Lib.counters.fn_is_dial) (needc : P Lib.counters.f_need_counter = some Lib.counters.fn_need_counter) (istx : P Lib.counters.f_is_text = some Lib.counters.fn_is_text) (num : P Lib.counters.f_number_in = some Lib.counters.fn_number_in) (nof : P Lib.counters.f_number_of = some Lib.counters.fn_number_of) (k : Nat) {cs : List (List Nat)} {t : List Nat} (c : Ctr cs) (ht : Tx cs t) (h : Hp) : callV (sem P (k + 3)) Lib.counters.f_number_of [.val (cD cs), .val (.str t)] h = .ok (.val (.int (nm cs t))) h := by
  refine call_val (by simp [Rv.free, D.free]) rfl (hc := []) ?_ (by simp [D.free])
  rw [sem_succ nof]
  refine runFn_eq (ρ := [some (cD cs), some (.str t)]) ?_ rfl rfl
  have c1 := fun h => c_need_counter dial needc k c h
  have c2 : ∀ h, callV (sem P (k + 2)) Lib.counters.f_is_text [.val (cD cs), .val (.str t)] h = .ok (.val (.bl true)) h := fun h => call_val (by simp [Rv.free, D.free]) rfl (hc := []) (by rw [sem_succ istx]; exact s_is_text c ht []) rfl
  have c3 : ∀ h, callV (sem P (k + 2)) Lib.counters.f_number_in [.val (cD cs), .val (.str t)] h = .ok (.val (.int (nm cs t))) h := fun h => call_val (by simp [Rv.free, D.free]) rfl (hc := []) (by rw [sem_succ num]; exact s_number c ht []) rfl
  simp [Lib.counters.b_number_of, exs, ex, ev, evs, tst, c1, c2, c3]
theorem c_number_of (S : PNum P) (k : Nat) {cs : List (List Nat)} {t : List Nat} (c : Ctr cs) (ht : Tx cs t) (h : Hp) : callV (sem P (k + 3)) Lib.counters.f_number_of [.val (cD cs), .val (.str t)] h = .ok (.val (.int (nm cs t))) h := c_number_of0 S.dial S.needc S.istx S.num S.nof k c ht h
end
/-! ### mathematics of runs -/
section
variable {r : Rn} (o : RnOk r)
include o
theorem W_pos : 0 < csz r.cs := by have := o.c.pos; omega
theorem T_dvd : rnd (csz r.cs) r.st ∣ csz r.cs := by
  have p : Par (csz r.cs) r.st (Nat.gcd (csz r.cs).natAbs r.st.natAbs : Nat) := ⟨W_pos o, rfl⟩
  have := p.mul
  rw [p.rw']
  exact ⟨_, by rw [Int.mul_comm]; exact this.symm⟩
theorem T_st : csz r.cs ∣ rnd (csz r.cs) r.st * r.st := by
  have p : Par (csz r.cs) r.st (Nat.gcd (csz r.cs).natAbs r.st.natAbs : Nat) := ⟨W_pos o, rfl⟩
  have e1 := p.mul
  have e2 := Int.mul_ediv_cancel' p.ds
  rw [p.rw']
  refine ⟨r.st / (Nat.gcd (csz r.cs).natAbs r.st.natAbs : Nat), ?_⟩
  generalize ((Nat.gcd (csz r.cs).natAbs r.st.natAbs : Nat) : Int) = g at *
  calc csz r.cs / g * r.st = csz r.cs / g * (g * (r.st / g)) := by rw [e2]
    _ = g * (csz r.cs / g) * (r.st / g) := by rw [← Int.mul_assoc, Int.mul_comm (csz r.cs / g) g]
    _ = csz r.cs * (r.st / g) := by rw [e1]
theorem T_bnd : 1 ≤ rnd (csz r.cs) r.st ∧ rnd (csz r.cs) r.st ≤ csz r.cs := rnd_le (W_pos o)
theorem shw_bnd (i : Int) : 0 ≤ shw r i ∧ shw r i < csz r.cs := ⟨Int.emod_nonneg _ (by have := W_pos o; omega), Int.emod_lt_of_pos _ (W_pos o)⟩
theorem shw_T (i : Int) : shw r (i + rnd (csz r.cs) r.st * r.cop) = shw r i := by
  have := o.c0
  have e1 : (i + rnd (csz r.cs) r.st * r.cop) / r.cop = i / r.cop + rnd (csz r.cs) r.st := Int.add_mul_ediv_right _ _ (by omega)
  obtain ⟨q, hq⟩ := T_st o
  simp only [shw, e1]
  have : r.b + (i / r.cop + rnd (csz r.cs) r.st) * r.st = r.b + i / r.cop * r.st + csz r.cs * q := by rw [Int.add_mul, hq]; omega
  rw [this, Int.add_mul_emod_self_left]
theorem nxl_here {i : Int} (i0 : 0 ≤ i) (i1 : i < r.many * r.cop) : nxl r i (some (i / r.cop % rnd (csz r.cs) r.st)) = some i := by
  have c0 := o.c0
  obtain ⟨t1, t2⟩ := T_bnd o
  have s0 : 0 ≤ i / r.cop := Int.ediv_nonneg i0 (by omega)
  have sl : i / r.cop * r.cop ≤ i := Int.ediv_mul_le _ (by omega)
  generalize hs : i / r.cop = s at *
  generalize hT : rnd (csz r.cs) r.st = T at *
  have e := Int.mul_ediv_add_emod s T
  have q0 : 0 ≤ s / T := Int.ediv_nonneg s0 (by omega)
  have f1 := Int.emod_lt_of_pos s (show 0 < T by omega)
  have f0 := Int.emod_nonneg s (show T ≠ 0 by omega)
  have tq : 0 ≤ T * (s / T) := Int.mul_nonneg (by omega) q0
  have key : (if s ≤ s % T then s % T else s % T + (s - s % T + T - 1) / T * T) = s := by
    by_cases z : s ≤ s % T
    · rw [if_pos z]; omega
    · rw [if_neg z]
      have e2 : s - s % T + T - 1 = (T - 1) + T * (s / T) := by omega
      rw [e2, Int.add_mul_ediv_left _ _ (by omega), Int.ediv_eq_zero_of_lt (by omega) (by omega), Int.zero_add, Int.mul_comm (s / T)]
      omega
  simp only [nxl, hs, hT, key]
  have ng : ¬ s * r.cop > i := by omega
  rw [if_neg ng, if_pos i1]
theorem nxl_next {s : Int} (s0 : 0 ≤ s) : nxl r (s * r.cop + r.cop) (some (s % rnd (csz r.cs) r.st)) = if (s + rnd (csz r.cs) r.st) * r.cop < r.many * r.cop then some ((s + rnd (csz r.cs) r.st) * r.cop) else none := by
  have c0 := o.c0
  obtain ⟨t1, t2⟩ := T_bnd o
  have ej : (s * r.cop + r.cop) / r.cop = s + 1 := by
    rw [show s * r.cop + r.cop = (s + 1) * r.cop by rw [Int.add_mul, Int.one_mul]]
    exact Int.mul_ediv_cancel _ (by omega)
  generalize hT : rnd (csz r.cs) r.st = T at *
  have e := Int.mul_ediv_add_emod s T
  have q0 : 0 ≤ s / T := Int.ediv_nonneg s0 (by omega)
  have f1 := Int.emod_lt_of_pos s (show 0 < T by omega)
  have f0 := Int.emod_nonneg s (show T ≠ 0 by omega)
  have tq : 0 ≤ T * (s / T) := Int.mul_nonneg (by omega) q0
  have e2 : s + 1 - s % T + T - 1 = T * (s / T + 1) := by rw [Int.mul_add]; omega
  have e3 : s % T + (s / T + 1) * T = s + T := by rw [Int.mul_comm, Int.mul_add]; omega
  have e4 : (s + T) * r.cop = s * r.cop + T * r.cop := Int.add_mul ..
  have t3 : 1 * r.cop ≤ T * r.cop := Int.mul_le_mul_of_nonneg_right t1 (by omega)
  have key : (if s + 1 ≤ s % T then s % T else s % T + (s + 1 - s % T + T - 1) / T * T) = s + T := by
    rw [if_neg (by omega), e2, Int.mul_ediv_cancel_left _ (by omega), e3]
  simp only [nxl, ej, hT, key]
  by_cases z : (s + T) * r.cop > s * r.cop + r.cop
  · rw [if_pos z]
  · have : s * r.cop + r.cop = (s + T) * r.cop := by omega
    rw [if_neg z, this]
theorem s_lt {i : Int} (i1 : i < r.many * r.cop) : i / r.cop < r.many := by
  have c0 := o.c0
  exact Int.ediv_lt_of_lt_mul (by omega) i1
theorem f_le {s : Int} (s0 : 0 ≤ s) : s % rnd (csz r.cs) r.st ≤ s ∧ 0 ≤ s % rnd (csz r.cs) r.st := by
  obtain ⟨t1, t2⟩ := T_bnd o
  have e := Int.mul_ediv_add_emod s (rnd (csz r.cs) r.st)
  have q0 : 0 ≤ s / rnd (csz r.cs) r.st := Int.ediv_nonneg s0 (by omega)
  have tq : 0 ≤ rnd (csz r.cs) r.st * (s / rnd (csz r.cs) r.st) := Int.mul_nonneg (by omega) q0
  exact ⟨by omega, Int.emod_nonneg _ (by omega)⟩
theorem tms_some {s : Int} (s0 : 0 ≤ s) (s1 : s < r.many) : tms r (some (s % rnd (csz r.cs) r.st)) = ((r.many - 1 - s % rnd (csz r.cs) r.st) / rnd (csz r.cs) r.st + 1) * r.cop ∧ 1 ≤ tms r (some (s % rnd (csz r.cs) r.st)) := by
  obtain ⟨t1, t2⟩ := T_bnd o
  obtain ⟨f1, f0⟩ := f_le o s0
  have c0 := o.c0
  have e : tms r (some (s % rnd (csz r.cs) r.st)) = ((r.many - 1 - s % rnd (csz r.cs) r.st) / rnd (csz r.cs) r.st + 1) * r.cop := by
    simp only [tms]
    rw [if_neg (by omega)]
  refine ⟨e, ?_⟩
  rw [e]
  have q0 : 0 ≤ (r.many - 1 - s % rnd (csz r.cs) r.st) / rnd (csz r.cs) r.st := Int.ediv_nonneg (by omega) (by omega)
  have : 1 * 1 ≤ ((r.many - 1 - s % rnd (csz r.cs) r.st) / rnd (csz r.cs) r.st + 1) * r.cop := Int.mul_le_mul (by omega) c0 (by omega) (by omega)
  omega
end
end G

/-! LDial: what a good dial is. -/
namespace G
theorem dist_add : ∀ (s a : List Nat), (a ++ s).Nodup → (chars s).foldl addD (chars a) = chars (a ++ s)
  | [], a, _ => by simp [chars]
  | c :: s, a, nd => by
    have hc : c ∉ a := fun z => by
      rw [List.nodup_append] at nd
      exact nd.2.2 c z c (by simp) rfl
    have ad : addD (chars a) (.str [c]) = chars (a ++ [c]) := by
      unfold addD
      have : ¬ ((chars a).any fun y => D.beq y (.str [c])) = true := fun z => by
        rw [List.any_eq_true] at z
        obtain ⟨y, hy, e⟩ := z
        obtain ⟨x, hx, rfl⟩ := List.mem_map.mp hy
        simp only [D.beq, decide_eq_true_eq, List.cons.injEq, and_true] at e
        exact hc (e ▸ hx)
      rw [if_neg this]
      simp [chars]
    have e : (chars (c :: s)).foldl addD (chars a) = (chars s).foldl addD (addD (chars a) (.str [c])) := rfl
    rw [e, ad, dist_add s (a ++ [c]) (by simpa using nd)]
    simp
theorem dist_chars {s : List Nat} (nd : s.Nodup) : dist (chars s) = s.length := by
  have := dist_add s [] (by simpa using nd)
  unfold dist
  rw [show ([] : List D) = chars [] from rfl, this]
  simp [chars]
theorem comp_chars {g : D → Hp → R (List D)} {f : Nat → D} (h : Hp) : ∀ s : List Nat, (∀ c ∈ s, g (.str [c]) h = .ok [f c] h) → compL [] g (chars s) h = .ok (s.map f) h
  | [], _ => rfl
  | c :: s, H => by
    have i := comp_chars h s fun t ht => H t (by simp [ht])
    have e : chars (c :: s) = .str [c] :: chars s := rfl
    simp only [e, compL, same, H c (by simp), i, List.map_cons, List.singleton_append]
theorem ev_lenS {C : Nat → List D → Hp → R Rv} {own : List Nat} {tg : Tg} {it : It} {elt : E} {ρ : Env} {h : Hp} : ev C (.lenS own tg it elt) ρ h = (evi C it ρ h).bind fun p h => (compL p.2 (fun d h => match bindTg (wipeE ρ own) tg d with
      | some ρ1 => (ev C elt ρ1 h).bind fun r h => match r with
        | .val d => when_ (keyOk d) h [d]
        | _ => .bad
      | none => .bad) p.1 h).bind fun ds h => when_ (decide (ds.length < 4000)) h (.val (.int (dist ds : Nat))) := by
  first | (simp only [ev]; done) | (simp only [ev]; rfl)
theorem dial_of {s : List Nat} (lo : 2 ≤ s.length) (hi : s.length ≤ 36) (nd : s.Nodup) (ok : ∀ c ∈ s, 33 ≤ c ∧ c ≤ 126 ∧ c ≠ 37) : DialOk s := by
  refine ⟨lo, hi, nd, fun C => ?_⟩
  refine runFn_eq (ρ := [some (.str s), none]) ?_ rfl rfl
  have ei : evi C (.seq (.var 0)) [some (.str s), none] [] = .ok (chars s, []) [] := by
    simp [evi, ev, itemsOf, watch]
  have rl : (s.map fun _ => D.bl true).length ≤ lim := by simp only [List.length_map, lim]; omega
  have rr : (s.map fun _ => D.bl true) = List.replicate s.length (.bl true) := List.map_const ..
  have lc : ev C (.lc [1] (.one 1) (.seq (.var 0)) .nil (.and (.ch .le .le (.c (.str [33])) (.var 1) (.c (.str [126]))) (.cmp .ne (.b1 .ord (.var 1)) (.glb 23 Lib.counters.k_PERCENT)))) [some (.str s), none] [] = .ok (.new (.lst (List.replicate s.length (.bl true)))) [] := by
    rw [ev_lc, ei]
    simp only [r_bind]
    rw [comp_chars (f := fun _ => .bl true) [] s fun c hc => ?_]
    · rw [rr] at rl ⊢
      simp only [r_bind, decide_eq_true rl, r_when]
    · have bt : bindTg (wipeE [some (.str s), none] [1]) (.one 1) (.str [c]) = some [some (.str s), some (.str [c])] := rfl
      obtain ⟨c1, c2, c3⟩ := ok c hc
      have l1 : ∀ h : Hp, cmpV h .le (.val (.str [33])) (.val (.str [c])) = .ok (.val (.bl true)) h := fun h => by
        have : ¬ c < 33 := by omega
        simp [cmpV, ordV, ltS, this]
      have l2 : ∀ h : Hp, cmpV h .le (.val (.str [c])) (.val (.str [126])) = .ok (.val (.bl true)) h := fun h => by
        have : ¬ 126 < c := by omega
        simp [cmpV, ordV, ltS, this]
      have od : ∀ h : Hp, b1V h .ord (.val (.str [c])) = .ok (.val (.int (c : Nat))) h := fun h => rfl
      have c4 : ¬ ((c : Nat) : Int) = 37 := by omega
      simp [lcF, bt, tsts, ev, l1, l2, od, Lib.counters.k_PERCENT, c4, boxOne]
  have ls : ev C (.lenS [1] (.one 1) (.seq (.var 0)) (.var 1)) [some (.str s), none] [] = .ok (.val (.int (s.length : Nat))) [] := by
    rw [ev_lenS, ei]
    simp only [r_bind]
    rw [comp_chars (f := fun c => .str [c]) [] s fun c hc => ?_]
    · have e : (s.map fun c => D.str [c]) = chars s := rfl
      have l : (chars s).length < 4000 := by simp [chars]; omega
      simp only [r_bind, e, decide_eq_true l, r_when, dist_chars nd]
    · have bt : bindTg (wipeE [some (.str s), none] [1]) (.one 1) (.str [c]) = some [some (.str s), some (.str [c])] := rfl
      simp [bt, ev, keyOk]
  have ln := fun h => len_str (s := s) (by omega) h
  have a1 : ¬ ((s.length : Int) < 2) := by omega
  have a2 : ¬ ((36 : Int) < (s.length : Int)) := by omega
  have ty : tyIs .str (.val (.str s)) [] = some true := rfl
  have e1 : ex C (.ife (.or (.not (.isi (.var 0) .str)) (.not (.ch .le .le (.c (.int 2)) (.b1 .len (.var 0)) (.glb 22 Lib.counters.k_MOST_SIGNS)))) (.cons (.ret (.c (.bl false))) .nil) .nil) [some (.str s), none] [] = .nx [some (.str s), none] [] := by
    simp [ex, tst, ev, ty, ln, exs, Lib.counters.k_MOST_SIGNS, a1, a2]
  unfold Lib.counters.b_is_dial
  generalize E.lc [1] (.one 1) (.seq (.var 0)) .nil (.and (.ch .le .le (.c (.str [33])) (.var 1) (.c (.str [126]))) (.cmp .ne (.b1 .ord (.var 1)) (.glb 23 Lib.counters.k_PERCENT))) = q at lc ⊢
  generalize E.lenS [1] (.one 1) (.seq (.var 0)) (.var 1) = q2 at ls ⊢
  simp only [exs, e1]
  simp [ex, exs, tst, ev, lc, all_rep, ls, ln]
end G

/-! LQ: what is common to laws of small counters. -/
namespace G
open PC
theorem Dr.up {h : Hp} {m c p : Nat} {K K' : Int} (d : Dr h m c p K) (l : K ≤ K') : Dr h m c p K' := by
  obtain ⟨cells, left, a, e1, e2, e3, r1, r2, r3, r4, r5⟩ := d.ex
  exact ⟨⟨cells, left, a, e1, e2, e3, r1, r2, r3, r4, by omega⟩, d.cp, d.cm, d.pm⟩
theorem rngL : ∀ (n : Nat) (lo : Int), rangeL lo 1 n = (List.range n).map fun k : Nat => D.int (lo + (k : Int))
  | 0, _ => rfl
  | n + 1, lo => by
    rw [List.range_succ_eq_map]
    simp only [rangeL, List.map_cons, List.map_map, rngL n (lo + 1)]
    congr 1
    · simp
    · apply List.map_congr_left
      intro k _
      simp
      omega
theorem all2_refl {f : D → D → Bool} : ∀ xs : List D, (∀ x ∈ xs, f x x = true) → all2 f xs xs = true
  | [], _ => rfl
  | x :: xs, H => by simp only [all2, H x (by simp), all2_refl xs fun y hy => H y (by simp [hy]), Bool.and_self]
theorem deq_refl (h : Hp) : ∀ (n : Nat) (d : D), dok h n d = true → deq h n d d = true
  | 0, d, e => by simp [dok] at e
  | n + 1, .non, _ => rfl
  | n + 1, .bl b, _ => by simp [deq]
  | n + 1, .int b, _ => by simp [deq]
  | n + 1, .str b, _ => by simp [deq]
  | n + 1, .tup xs, e => by
    simp only [dok, List.all_eq_true] at e
    simp only [deq]
    exact all2_refl xs fun x hx => deq_refl h n x (e x hx)
  | n + 1, .ktup xs, e => by
    simp only [dok, List.all_eq_true] at e
    simp only [deq]
    exact all2_refl xs fun x hx => deq_refl h n x (e x hx)
  | n + 1, .rol xs, e => by
    simp only [dok, List.all_eq_true] at e
    simp only [deq]
    exact all2_refl xs fun x hx => deq_refl h n x (e x hx)
  | n + 1, .ref k, e => by
    simp only [dok] at e
    simp only [deq]
    cases hk : (h[k]?).bind lstIn with
    | none => rw [hk] at e; cases e
    | some xs =>
      rw [hk] at e
      simp only [List.all_eq_true] at e
      exact all2_refl xs fun x hx => deq_refl h n x (e x hx)
theorem eqV_refl {h : Hp} {d : D} (e : dok h 60 d = true) : eqV h (.val d) (.val d) = some true := by
  have r := deq_refl h 60 d e
  cases d <;> first | (simp [eqV]; done) | (simp only [eqV, e, r, Bool.and_self, if_true])
/-- a list that was just made against the same one that stands -/
theorem eqV_new {h : Hp} {n : Nat} {xs : List D} (e : h[n]? = some (.lst xs)) (k : ∀ x ∈ xs, dok (h ++ [O.lst xs]) 59 x = true) : eqV h (.new (.lst xs)) (.val (.ref n)) = some true := by
  have hp : n < h.length := (List.getElem?_eq_some_iff.mp e).1
  have e1 : (h ++ [O.lst xs])[n]? = some (.lst xs) := by rw [List.getElem?_append_left hp]; exact e
  have e2 : (h ++ [O.lst xs])[h.length]? = some (.lst xs) := by simp
  have ka : xs.all (dok (h ++ [O.lst xs]) 59) = true := by rw [List.all_eq_true]; exact k
  have d1 : dok (h ++ [O.lst xs]) 60 (.ref n) = true := by simp only [dok, e1, Option.bind_some, lstIn, ka]
  have d2 : dok (h ++ [O.lst xs]) 60 (.ref h.length) = true := by simp only [dok, e2, Option.bind_some, lstIn, ka]
  simp only [eqV, d1, d2, Bool.and_self, if_true]
  simp only [deq, e1, e2, Option.bind_some, lstIn]
  rw [all2_refl xs fun x hx => deq_refl _ 59 x (k x hx)]
/-! ### small counters -/
def Low (cs : List (List Nat)) : Prop := ∀ s ∈ cs, ∀ c ∈ s, c < 55296
theorem dok_str {h : Hp} {n : Nat} {s : List Nat} (l : ∀ c ∈ s, c < 55296) : dok h (n + 1) (.str s) = true := by
  simp only [dok, List.all_eq_true, decide_eq_true_eq]
  exact l
theorem dok_cD {h : Hp} {n : Nat} {cs : List (List Nat)} (l : Low cs) : dok h (n + 2) (cD cs) = true := by
  simp only [dok, cD, List.all_eq_true]
  intro x hx
  obtain ⟨s, hs, rfl⟩ := List.mem_map.mp hx
  exact dok_str (l s hs)
theorem low_Tx {cs : List (List Nat)} {t : List Nat} (h : Tx cs t) : Low cs → ∀ c ∈ t, c < 55296 := by
  induction h with
  | nil => intro _ c hc; simp at hc
  | cons hc ht ih =>
    rename_i s r c t
    intro l x hx
    rcases List.mem_cons.mp hx with z | z
    · rw [z]; exact l s (by simp) c hc
    · exact ih (fun s hs => l s (by simp [hs])) x z
theorem eq_cD0 {h : Hp} {cs : List (List Nat)} (l : Low cs) : eqV h (.val (cD cs)) (.val (.tup [])) = some cs.isEmpty := by
  have d1 : dok h 60 (cD cs) = true := dok_cD (n := 58) l
  have d2 : dok h 60 (.tup []) = true := rfl
  unfold cD at d1 ⊢
  simp only [eqV, d1, d2, Bool.and_self, if_true]
  cases cs <;> rfl
/-- the dials of laws -/
def sd : List (List Nat) := [[48, 49], [97, 98, 99], [119, 120, 121, 122], [53, 52, 51, 50, 49]]
theorem sd_ok : ∀ s ∈ sd, DialOk s ∧ (∀ c ∈ s, c < 55296) ∧ s.length ≤ 5 := by
  intro s hs
  simp only [sd, List.mem_cons, List.mem_nil_iff, or_false] at hs
  rcases hs with rfl | rfl | rfl | rfl
  · exact ⟨dial_of (by decide) (by decide) (by decide) (by decide), by decide, by decide⟩
  · exact ⟨dial_of (by decide) (by decide) (by decide) (by decide), by decide, by decide⟩
  · exact ⟨dial_of (by decide) (by decide) (by decide) (by decide), by decide, by decide⟩
  · exact ⟨dial_of (by decide) (by decide) (by decide) (by decide), by decide, by decide⟩
/-- a counter of laws -/
structure Sml (cs : List (List Nat)) (most : Int) : Prop where
  all : ∀ s ∈ cs, s ∈ sd
  len : cs.length ≤ 12
  sz : csz cs ≤ most
theorem Sml.ctr {cs : List (List Nat)} {most : Int} (s : Sml cs most) (ne : 1 ≤ cs.length) : Ctr cs := ⟨ne, s.len, fun x hx => (sd_ok x (s.all x hx)).1⟩
theorem Sml.low {cs : List (List Nat)} {most : Int} (s : Sml cs most) : Low cs := fun x hx => (sd_ok x (s.all x hx)).2.1
def ctW (fnx : Nat) : Ss := .cons (.asg 5 (.idx (.lst (.cons (.c (.str [48, 49])) (.cons (.c (.str [97, 98, 99])) (.cons (.c (.str [119, 120, 121, 122])) (.cons (.c (.str [53, 52, 51, 50, 49])) .nil))))) (.call fnx (.cons (.var 0) (.cons (.c (.int 4)) .nil))))) (.cons (.ife (.cmp .le (.bin .mul (.var 4) (.b1 .len (.var 5))) (.var 1)) (.cons (.asgT [3, 4] (.tup (.cons (.bin .add (.var 3) (.tup (.cons (.var 5) .nil))) (.cons (.bin .mul (.var 4) (.b1 .len (.var 5))) .nil)))) .nil) .nil) .nil)
def ctB (fnx : Nat) : Ss := .cons (.asgT [3, 4] (.tup (.cons (.tup .nil) (.cons (.c (.int 1)) .nil)))) (.cons (.for_ (.one 2) (.r1 (.bin .add (.c (.int 1)) (.call fnx (.cons (.var 0) (.cons (.c (.int 3)) .nil))))) (ctW fnx)) (.cons (.ret (.ife (.cmp .ne (.var 3) (.tup .nil)) (.var 3) (.tup (.cons (.c (.str [48, 49])) .nil)))) .nil))
section
variable {P : Nat → Option Fn} {fnx : Nat}
theorem idx_sd (h : Hp) {i : Int} (h0 : 0 ≤ i) (h1 : i < 4) : ∃ s ∈ sd, idxV h (.new (.lst [.str [48, 49], .str [97, 98, 99], .str [119, 120, 121, 122], .str [53, 52, 51, 50, 49]])) (.val (.int i)) = .ok (.val (.str s)) h := by
  have : i = 0 ∨ i = 1 ∨ i = 2 ∨ i = 3 := by omega
  rcases this with rfl | rfl | rfl | rfl
  · exact ⟨_, by simp [sd], rfl⟩
  · exact ⟨_, by simp [sd], rfl⟩
  · exact ⟨_, by simp [sd], rfl⟩
  · exact ⟨_, by simp [sd], rfl⟩
theorem csz_snoc (cs : List (List Nat)) (s : List Nat) : csz (cs ++ [s]) = csz cs * s.length := by rw [csz_app]; simp [csz]
theorem ct_step (hN : P fnx = some ⟨2, 6, nextB⟩) (k : Nat) {most : Int} (mb : most ≤ 1000) {cs : List (List Nat)} (sm : Sml cs most) (lb : cs.length ≤ 10) {h : Hp} {m c p : Nat} {K : Int} (d : Dr h m c p K) (hK : K < 2 ^ 55) (x t5 : Option D) :
    ∃ (cs' : List (List Nat)) (h' : Hp) (p' : Nat) (t5' : Option D), exs (sem P (k + 1)) (ctW fnx) [some (.ref m), some (.int most), x, some (cD cs), some (.int (csz cs)), t5] h = .nx [some (.ref m), some (.int most), x, some (cD cs'), some (.int (csz cs')), t5'] h' ∧ Sml cs' most ∧ cs'.length ≤ cs.length + 1 ∧ Dr h' m c p' (K + 1) ∧ h.length ≤ h'.length ∧ (∀ i, i < h.length → i ≠ m → i ≠ p → h'[i]? = h[i]?) := by
  obtain ⟨i, h1, p1, e1, a1, b1, d1, _, l1, fr⟩ := draw hN k (total := 4) d (by omega) (by omega) (by omega)
  obtain ⟨s, hs, es⟩ := idx_sd h1 a1 b1
  obtain ⟨so, sl, s5⟩ := sd_ok s hs
  have lo := so.lo
  have ln := fun h => len_str (s := s) (by omega) h
  have cp : 1 ≤ csz cs := csz_pos fun t ht => ⟨(sd_ok t (sm.all t ht)).1.lo, (sd_ok t (sm.all t ht)).1.nd⟩
  have cz := sm.sz
  have mo : mulOk (csz cs) (s.length : Int) = true := mulOk_of 60 60 (nat_lt (by omega) (by omega)) (by omega) (by omega)
  by_cases z : csz cs * (s.length : Int) ≤ most
  · have z' : ¬ most < csz cs * (s.length : Int) := by omega
    have al : (cs.map D.str).length + [D.str s].length ≤ lim := by simp only [List.length_map, List.length_singleton, lim]; omega
    have ad : ∀ h, binV h .add (.val (cD cs)) (.val (.tup [.str s])) = .ok (.val (cD (cs ++ [s]))) h := fun h => by
      simp only [binV, addV, cD, decide_eq_true al, r_when, List.map_append, List.map_cons, List.map_nil]
    refine ⟨cs ++ [s], h1, p1, some (.str s), ?_, ⟨fun t ht => ?_, by simp; omega, by rw [csz_snoc]; exact z⟩, by simp, d1, l1, fr⟩
    · simp only [ctW, exs, ex, ev, evs, tst, r_bind, r_st, r_opt, r_when, boxAll, boxOne, List.length_cons, List.length_nil, Nat.zero_add, Nat.reduceAdd, lim_1, lim_2, lim_4, decide_true, List.getElem?_cons_zero, List.getElem?_cons_succ, List.set_cons_zero, List.set_cons_succ, e1, es, ln, bin_mul, mo, cmp_le, decide_eq_false z', Bool.not_false, tru_b, ad, bindTg, List.zip_cons_cons, List.zip_nil_right, List.foldl_cons, List.foldl_nil, if_true, csz_snoc]
    · rcases List.mem_append.mp ht with y | y
      · exact sm.all t y
      · rw [List.mem_singleton.mp y]; exact hs
  · have z' : most < csz cs * (s.length : Int) := by omega
    refine ⟨cs, h1, p1, some (.str s), ?_, sm, by omega, d1, l1, fr⟩
    simp only [ctW, exs, ex, ev, evs, tst, r_bind, r_st, r_opt, r_when, boxAll, boxOne, List.length_cons, List.length_nil, Nat.zero_add, Nat.reduceAdd, lim_1, lim_2, lim_4, decide_true, List.getElem?_cons_zero, List.getElem?_cons_succ, List.set_cons_zero, List.set_cons_succ, e1, es, ln, bin_mul, mo, cmp_le, decide_eq_true z', Bool.not_true, tru_b]
theorem ct_loop (hN : P fnx = some ⟨2, 6, nextB⟩) (k : Nat) {most : Int} (mb : most ≤ 1000) {m c : Nat} : ∀ (j : Nat) (lo : Int) (cs : List (List Nat)) (h : Hp) (p : Nat) (K : Int) (x t5 : Option D), Sml cs most → cs.length + j ≤ 10 → Dr h m c p K → K + j < 2 ^ 55 →
    ∃ (cs' : List (List Nat)) (h' : Hp) (p' : Nat) (x' t5' : Option D), forL (fun d ρ => bindTg ρ (.one 2) d) [] (exs (sem P (k + 1)) (ctW fnx)) (rangeL lo 1 j) [some (.ref m), some (.int most), x, some (cD cs), some (.int (csz cs)), t5] h = .nx [some (.ref m), some (.int most), x', some (cD cs'), some (.int (csz cs')), t5'] h' ∧ Sml cs' most ∧ Dr h' m c p' (K + j)
  | 0, lo, cs, h, p, K, x, t5, sm, _, d, _ => ⟨cs, h, p, x, t5, by simp [rangeL, forL, same], sm, by simpa using d⟩
  | j + 1, lo, cs, h, p, K, x, t5, sm, lb, d, hK => by
    obtain ⟨cs1, h1, p1, t1, e1, sm1, l1, d1, _⟩ := ct_step hN k mb sm (by omega) d (by omega) (some (.int lo)) t5
    obtain ⟨cs2, h2, p2, x2, t2, e2, sm2, d2⟩ := ct_loop hN k mb j (lo + 1) cs1 h1 p1 (K + 1) (some (.int lo)) t1 sm1 (by omega) d1 (by omega)
    refine ⟨cs2, h2, p2, x2, t2, ?_, sm2, by rw [show K + ((j + 1 : Nat) : Int) = K + 1 + j by omega]; exact d2⟩
    have bt : bindTg [some (.ref m), some (.int most), x, some (cD cs), some (.int (csz cs)), t5] (.one 2) (.int lo) = some [some (.ref m), some (.int most), some (.int lo), some (cD cs), some (.int (csz cs)), t5] := rfl
    simp only [rangeL, forL, same, bt, e1, e2]
/-- a counter is drawn -/
theorem c_counter2 (hN : P fnx = some ⟨2, 6, nextB⟩) {f : Nat} (hC : P f = some ⟨2, 6, ctB fnx⟩) (k : Nat) {most : Int} (m2 : 2 ≤ most) (mb : most ≤ 1000) {h : Hp} {m c p : Nat} {K : Int} (d : Dr h m c p K) (hK : K < 2 ^ 50) :
    ∃ (cs : List (List Nat)) (h' : Hp) (p' : Nat), callV (sem P (k + 2)) f [.val (.ref m), .val (.int most)] h = .ok (.val (cD cs)) h' ∧ Ctr cs ∧ Low cs ∧ csz cs ≤ most ∧ (∀ s ∈ cs, s ∈ sd) ∧ Dr h' m c p' (K + 4) := by
  obtain ⟨i, h1, p1, e1, a1, b1, d1, _⟩ := draw hN k (total := 3) d (by omega) (by omega) (by omega)
  have s0 : Sml [] most := ⟨fun t ht => by simp at ht, by simp, by simp [csz]; omega⟩
  obtain ⟨cs, h2, p2, x2, t2, e2, sm, d2⟩ := ct_loop hN k mb (1 + i).toNat 0 [] h1 p1 (K + 1) none none s0 (by simp; omega) d1 (by omega)
  have ec : callV (sem P (k + 2)) f [.val (.ref m), .val (.int most)] h = sem P (k + 2) f [.ref m, .int most] h := rfl
  have c1 : csz [] = 1 := rfl
  have a1' : ex (sem P (k + 1)) (.asgT [3, 4] (.tup (.cons (.tup .nil) (.cons (.c (.int 1)) .nil)))) [some (.ref m), some (.int most), none, none, none, none] h = .nx [some (.ref m), some (.int most), none, some (cD []), some (.int (csz [])), none] h := by
    have l0 : (0 ≤ lim) = True := by simp [lim]
    simp [ex, ev, evs, boxAll, boxOne, bindTg, l0, cD, c1]
  have ei : evi (sem P (k + 1)) (.r1 (.bin .add (.c (.int 1)) (.call fnx (.cons (.var 0) (.cons (.c (.int 3)) .nil))))) [some (.ref m), some (.int most), none, some (cD []), some (.int (csz [])), none] h = .ok (rangeL 0 1 (1 + i).toNat, []) h1 := by
    refine r1_ok ?_ (small_of (by omega) (by omega))
    simp only [ev, evs, r_bind, List.getElem?_cons_zero, e1, bin_add]
  have l0 : (0 ≤ lim) = True := by simp [lim]
  have run : ∀ cs', (if cs.isEmpty then [[48, 49]] else cs) = cs' → sem P (k + 2) f [.ref m, .int most] h = .ok (.val (cD cs')) h2 := fun cs' hc => by
    rw [sem_succ hC]
    refine runFn_eq (ρ := [some (.ref m), some (.int most), none, none, none, none]) ?_ rfl rfl
    unfold ctB
    simp only [exs, a1']
    rw [ex_for ei]
    dsimp only
    rw [e2]
    have ee := fun h => eq_cD0 (h := h) sm.low
    cases hq : cs.isEmpty with
    | true =>
      rw [hq] at ee hc
      simp only [if_true] at hc
      subst hc
      simp only [ex, ev, evs, tst, r_bind, r_st, r_opt, r_when, boxAll, boxOne, List.length_cons, List.length_nil, Nat.zero_add, Nat.reduceAdd, lim_1, decide_true, List.getElem?_cons_zero, List.getElem?_cons_succ, cmp_ne, l0, ee, Option.map_some, Bool.not_true, r_bool, tru_b]
      rfl
    | false =>
      rw [hq] at ee hc
      simp only [Bool.false_eq_true, if_false] at hc
      subst hc
      simp only [ex, ev, evs, tst, r_bind, r_st, r_opt, r_when, boxAll, boxOne, List.length_cons, List.length_nil, Nat.zero_add, Nat.reduceAdd, lim_1, decide_true, List.getElem?_cons_zero, List.getElem?_cons_succ, cmp_ne, l0, ee, Option.map_some, Bool.not_false, r_bool, tru_b]
  have d3 : Dr h2 m c p2 (K + 4) := d2.up (by omega)
  cases hq : cs.isEmpty with
  | true =>
    have s2 : Sml [[48, 49]] most := ⟨fun t ht => by rw [List.mem_singleton.mp ht]; simp [sd], by simp, by simp [csz]; omega⟩
    exact ⟨[[48, 49]], h2, p2, by rw [ec]; exact run _ (by rw [hq]; rfl), s2.ctr (by simp), s2.low, s2.sz, s2.all, d3⟩
  | false =>
    have ne : 1 ≤ cs.length := by
      cases cs with
      | nil => cases hq
      | cons a b => simp
    exact ⟨cs, h2, p2, by rw [ec]; exact run _ (by rw [hq]; rfl), sm.ctr ne, sm.low, sm.sz, sm.all, d3⟩
theorem c_counter (hN : P fnx = some ⟨2, 6, nextB⟩) {f : Nat} (hC : P f = some ⟨2, 6, ctB fnx⟩) (k : Nat) {most : Int} (m2 : 2 ≤ most) (mb : most ≤ 1000) {h : Hp} {m c p : Nat} {K : Int} (d : Dr h m c p K) (hK : K < 2 ^ 50) :
    ∃ (cs : List (List Nat)) (h' : Hp) (p' : Nat), callV (sem P (k + 2)) f [.val (.ref m), .val (.int most)] h = .ok (.val (cD cs)) h' ∧ Ctr cs ∧ Low cs ∧ csz cs ≤ most ∧ Dr h' m c p' (K + 4) := by
  obtain ⟨cs, h', p', a, b, c, d, _, e⟩ := c_counter2 hN hC k m2 mb d hK
  exact ⟨cs, h', p', a, b, c, d, e⟩
end
end G

/-! PS: how often a text is shown, and when next. -/
namespace G
open PC
section
variable {r : Rn} (o : RnOk r)
include o
/-- how many of so many serials show it -/
def cnt (T f : Int) (m : Nat) : Nat := ((List.range m).filter fun (s : Nat) => decide ((s : Int) % T = f)).length
omit o in
theorem cnt_succ (T f : Int) (m : Nat) : cnt T f (m + 1) = cnt T f m + (if (m : Int) % T = f then 1 else 0) := by
  simp only [cnt, List.range_succ, List.filter_append, List.length_append]
  by_cases z : (m : Int) % T = f <;> simp [List.filter_cons, z]
omit o in
theorem cnt_eq {T f : Int} (T0 : 0 < T) (f0 : 0 ≤ f) (f1 : f < T) : ∀ m : Nat, (cnt T f m : Int) = if (m : Int) ≤ f then 0 else ((m : Int) - 1 - f) / T + 1
  | 0 => by rw [if_pos (by omega)]; simp [cnt]
  | m + 1 => by
    have i := cnt_eq T0 f0 f1 m
    have e := cnt_succ T f m
    rw [e]
    have em := Int.mul_ediv_add_emod (m : Int) T
    have r0 := Int.emod_nonneg (m : Int) (show T ≠ 0 by omega)
    have r1 := Int.emod_lt_of_pos (m : Int) T0
    by_cases c1 : ((m + 1 : Nat) : Int) ≤ f
    · have : (m : Int) % T = m := Int.emod_eq_of_lt (by omega) (by omega)
      rw [if_pos c1, if_neg (by omega)]
      rw [if_pos (by omega)] at i
      omega
    · rw [if_neg c1]
      by_cases c2 : (m : Int) = f
      · have : (m : Int) % T = m := Int.emod_eq_of_lt (by omega) (by omega)
        rw [if_pos (by omega)]
        rw [if_pos (by omega)] at i
        have z : (((m + 1 : Nat) : Int) - 1 - f) = 0 := by omega
        rw [z, Int.zero_ediv]
        omega
      · rw [if_neg (by omega)] at i
        have dm : ((m + 1 : Nat) : Int) - 1 - f = (m : Int) - 1 - f + 1 := by omega
        rw [dm]
        have ea := Int.mul_ediv_add_emod ((m : Int) - 1 - f) T
        have a0 := Int.emod_nonneg ((m : Int) - 1 - f) (show T ≠ 0 by omega)
        have a1 := Int.emod_lt_of_pos ((m : Int) - 1 - f) T0
        generalize hq : ((m : Int) - 1 - f) / T = q at *
        generalize hx : ((m : Int) - 1 - f) % T = x at *
        by_cases c3 : x = T - 1
        · have e1 : ((m : Int) - 1 - f + 1) / T = q + 1 := by
            have : (m : Int) - 1 - f + 1 = T * (q + 1) := by rw [Int.mul_add]; omega
            rw [this, Int.mul_ediv_cancel_left _ (by omega)]
          have e2 : (m : Int) % T = f := by
            refine PL.mod_of (c := q + 1) ?_ f0 f1
            rw [Int.mul_comm, Int.mul_add]; omega
          rw [e1, if_pos e2]
          omega
        · have e1 : ((m : Int) - 1 - f + 1) / T = q := by
            have : (m : Int) - 1 - f + 1 = (x + 1) + T * q := by omega
            rw [this, Int.add_mul_ediv_left _ _ (by omega), Int.ediv_eq_zero_of_lt (by omega) (by omega), Int.zero_add]
          have e2 : ¬ (m : Int) % T = f := fun z => by
            have z1 : (m : Int) - f = T * ((m : Int) / T) := by omega
            have z2 : (m : Int) - f = T * q + (x + 1) := by omega
            have z3 : (x + 1) % T = 0 := by
              have : x + 1 = T * ((m : Int) / T - q) := by rw [Int.mul_sub]; omega
              rw [this]; exact Int.mul_emod_right _ _
            rw [Int.emod_eq_of_lt (by omega) (by omega)] at z3
            omega
          rw [e1, if_neg e2]
          omega
/-- the labels that show a number, of the first ones -/
def hitsL (T f cop : Int) (n : Nat) : Nat := ((List.range n).filter fun (j : Nat) => decide ((j : Int) / cop % T = f)).length
omit o in
theorem hits_step (T f : Int) (c : Nat) (c0 : 1 ≤ c) (m : Nat) : ∀ j : Nat, j ≤ c → hitsL T f c (m * c + j) = hitsL T f c (m * c) + (if (m : Int) % T = f then j else 0)
  | 0, _ => by simp
  | j + 1, hj => by
    have i := hits_step T f c c0 m j (by omega)
    have e : ((m * c + j : Nat) : Int) / (c : Int) = m := by
      have : ((m * c + j : Nat) : Int) = (j : Int) + (m : Int) * (c : Int) := by push_cast; omega
      rw [this, Int.add_mul_ediv_right _ _ (by omega), Int.ediv_eq_zero_of_lt (by omega) (by omega), Int.zero_add]
    have s : hitsL T f c (m * c + j + 1) = hitsL T f c (m * c + j) + (if (m : Int) % T = f then 1 else 0) := by
      simp only [hitsL, List.range_succ, List.filter_append, List.length_append]
      generalize m * c + j = u at e
      by_cases z : (m : Int) % T = f <;> simp [List.filter_cons, e, z]
    rw [← Nat.add_assoc, s, i]
    split <;> omega
omit o in
theorem hits_eq (T f : Int) (c : Nat) (c0 : 1 ≤ c) : ∀ m : Nat, hitsL T f c (m * c) = cnt T f m * c
  | 0 => by simp [hitsL, cnt]
  | m + 1 => by
    rw [Nat.succ_mul, hits_step T f c c0 m c (Nat.le_refl _), hits_eq T f c c0 m, cnt_succ, Nat.add_mul]
    split <;> simp
theorem tms_hits {f : Int} (f0 : 0 ≤ f) (f1 : f < rnd (csz r.cs) r.st) : tms r (some f) = (hitsL (rnd (csz r.cs) r.st) f r.cop (r.many * r.cop).toNat : Nat) := by
  have m0 := o.m0
  have c0 := o.c0
  obtain ⟨t1, _⟩ := T_bnd o
  obtain ⟨m, hm⟩ : ∃ m : Nat, r.many = m := ⟨r.many.toNat, by omega⟩
  obtain ⟨c, hc⟩ : ∃ c : Nat, r.cop = c := ⟨r.cop.toNat, by omega⟩
  have e : (r.many * r.cop).toNat = m * c := by rw [hm, hc, ← Int.natCast_mul, Int.toNat_natCast]
  have h := cnt_eq (T := rnd (csz r.cs) r.st) (by omega) f0 f1 m
  rw [e, hc, hits_eq _ _ c (by omega), Int.natCast_mul, h]
  simp only [tms, hm, hc]
  split <;> simp
theorem tms_none : (0 : Int) = tms r none := rfl
/-- the first one from a label on -/
theorem nxl_spec {f i : Int} (f0 : 0 ≤ f) (f1 : f < rnd (csz r.cs) r.st) (i0 : 0 ≤ i) : ∃ x, i ≤ x ∧ x / r.cop % rnd (csz r.cs) r.st = f ∧ (∀ j, i ≤ j → j < x → j / r.cop % rnd (csz r.cs) r.st ≠ f) ∧ nxl r i (some f) = if x < r.many * r.cop then some x else none := by
  have c0 := o.c0
  obtain ⟨t1, _⟩ := T_bnd o
  generalize hT : rnd (csz r.cs) r.st = T at *
  have q0 : 0 ≤ i / r.cop := Int.ediv_nonneg i0 (by omega)
  obtain ⟨s, es, s1, s2, s3⟩ : ∃ s, (if i / r.cop ≤ f then f else f + (i / r.cop - f + T - 1) / T * T) = s ∧ i / r.cop ≤ s ∧ s % T = f ∧ ∀ u, i / r.cop ≤ u → u < s → u % T ≠ f := by
    by_cases z : i / r.cop ≤ f
    · refine ⟨f, by rw [if_pos z], z, Int.emod_eq_of_lt f0 f1, fun u u1 u2 => ?_⟩
      rw [Int.emod_eq_of_lt (by omega) (by omega)]
      omega
    · refine ⟨_, by rw [if_neg z], ?_, ?_, ?_⟩
      · have := Int.mul_ediv_add_emod (i / r.cop - f + T - 1) T
        have := Int.emod_lt_of_pos (i / r.cop - f + T - 1) (show 0 < T by omega)
        rw [Int.mul_comm ((i / r.cop - f + T - 1) / T)]
        omega
      · rw [Int.add_mul_emod_self_right, Int.emod_eq_of_lt f0 f1]
      · intro u u1 u2 hu
        generalize hq : (i / r.cop - f + T - 1) / T = q at *
        have e1 := Int.mul_ediv_add_emod (i / r.cop - f + T - 1) T
        have e2 := Int.emod_nonneg (i / r.cop - f + T - 1) (show T ≠ 0 by omega)
        rw [hq] at e1
        have e3 := Int.mul_ediv_add_emod u T
        rw [hu] at e3
        have e4 : T * (u / T) < T * q := by rw [Int.mul_comm T q]; omega
        have e5 : u / T < q := Int.lt_of_mul_lt_mul_left e4 (by omega)
        have e6 : T * (u / T) ≤ T * (q - 1) := Int.mul_le_mul_of_nonneg_left (by omega) (by omega)
        rw [Int.mul_sub, Int.mul_one] at e6
        omega
  have sc : s * r.cop / r.cop = s := Int.mul_ediv_cancel _ (by omega)
  have key : nxl r i (some f) = if (if s * r.cop > i then s * r.cop else i) < r.many * r.cop then some (if s * r.cop > i then s * r.cop else i) else none := by
    simp only [nxl, hT, es]
  by_cases y : s * r.cop > i
  · rw [if_pos y] at key
    refine ⟨s * r.cop, by omega, by rw [sc, s2], fun j j1 j2 => s3 _ (Int.ediv_le_ediv (by omega) j1) ?_, key⟩
    exact Int.ediv_lt_of_lt_mul (by omega) j2
  · rw [if_neg y] at key
    have e7 : i / r.cop = s := by
      have : s ≤ i / r.cop := (Int.le_ediv_iff_mul_le (by omega)).mpr (by omega)
      omega
    exact ⟨i, Int.le_refl _, by rw [e7, s2], fun j j1 j2 => by omega, key⟩
theorem shw_iff {n f j : Int} (h : IsSer (csz r.cs) r.b r.st n (some f)) : shw r j = n ↔ j / r.cop % rnd (csz r.cs) r.st = f := h.2.2 (j / r.cop)
theorem shw_no {n j : Int} (h : IsSer (csz r.cs) r.b r.st n none) : shw r j ≠ n := h (j / r.cop)
/-- behind how many serials the first comes again -/
theorem rnd_iff (j : Int) : (r.b + j * r.st) % csz r.cs = r.b ↔ j % rnd (csz r.cs) r.st = 0 := by
  have p : Par (csz r.cs) r.st (Nat.gcd (csz r.cs).natAbs r.st.natAbs : Nat) := ⟨W_pos o, rfl⟩
  have b0 := o.b0
  have b1 := o.b1
  obtain ⟨t1, _⟩ := T_bnd o
  obtain ⟨x, y, hb⟩ := bez (csz r.cs).natAbs r.st.natAbs
  constructor
  · intro e
    have d1 : csz r.cs ∣ j * r.st := by
      have := (mod_eq_iff b0 b1).mp e
      rw [show r.b + j * r.st - r.b = j * r.st by omega] at this
      exact this
    have gp := p.pos
    have em := p.mul
    have es : (Nat.gcd (csz r.cs).natAbs r.st.natAbs : Nat) * (r.st / (Nat.gcd (csz r.cs).natAbs r.st.natAbs : Nat)) = r.st := Int.mul_ediv_cancel' p.ds
    rw [p.rw']
    have co := co_par p
    generalize ((Nat.gcd (csz r.cs).natAbs r.st.natAbs : Nat) : Int) = g at *
    have d2 : csz r.cs / g ∣ j * (r.st / g) := by
      have : g * (csz r.cs / g) ∣ g * (j * (r.st / g)) := by
        rw [em, ← Int.mul_assoc, Int.mul_comm g j, Int.mul_assoc, es]
        exact d1
      exact (dvd_iff (by omega)).mp this
    have c1 : Nat.Coprime (csz r.cs / g).natAbs (r.st / g).natAbs := by
      refine co _ ?_ ?_
      · exact nd (Nat.gcd_dvd_right _ _)
      · exact nd (Nat.gcd_dvd_left _ _)
    have d3 : (csz r.cs / g).natAbs ∣ j.natAbs * (r.st / g).natAbs := by
      have := Int.natAbs_dvd_natAbs.mpr d2
      rw [Int.natAbs_mul] at this
      exact this
    have d4 := Nat.Coprime.dvd_of_dvd_mul_right c1 d3
    exact Int.emod_eq_zero_of_dvd (Int.natAbs_dvd_natAbs.mp d4)
  · intro e
    obtain ⟨q, hq⟩ := T_st o
    have ej : j = rnd (csz r.cs) r.st * (j / rnd (csz r.cs) r.st) := by
      have := Int.mul_ediv_add_emod j (rnd (csz r.cs) r.st)
      omega
    have : j * r.st = csz r.cs * (q * (j / rnd (csz r.cs) r.st)) := by
      conv => lhs; rw [ej]
      rw [Int.mul_right_comm, hq, Int.mul_assoc]
    rw [this, Int.add_mul_emod_self_left, Int.emod_eq_of_lt b0 b1]
end
end G

/-! LT: lists of texts in laws of runs. -/
namespace G
open PC
theorem repl1 (x : D) : ∀ n : Nat, (List.replicate n [x]).flatten = List.replicate n x
  | 0 => rfl
  | n + 1 => by rw [List.replicate_succ, List.flatten_cons, repl1 x n, List.replicate_succ]; rfl
theorem mulL (h : Hp) (x : D) {j : Int} (j0 : 0 ≤ j) (j1 : j ≤ 1000) : binV h .mul (.new (.lst [x])) (.val (.int j)) = .ok (.new (.lst (List.replicate j.toNat x))) h := by
  have e : (decide (([x] : List D).length * j.toNat ≤ lim) && decide (-(2 ^ 63) ≤ j) && decide (j < 2 ^ 63)) = true := by
    simp only [List.length_singleton, Nat.one_mul, lim, Bool.and_eq_true, decide_eq_true_eq]
    omega
  simp only [binV, mulV, objOf, e, r_when, repl1]
theorem addL {h : Hp} {n : Nat} {a b : List D} (e : h[n]? = some (.lst a)) (l : a.length + b.length ≤ 100000) : binV h .add (.val (.ref n)) (.new (.lst b)) = .ok (.new (.lst (a ++ b))) h := by
  have z : a.length + b.length ≤ lim := by simp only [lim]; omega
  simp only [binV, addV, objOf, e, decide_eq_true z, r_when]
theorem beqs_refl : ∀ xs : List (List Nat), D.beqs (xs.map .str) (xs.map .str) = true
  | [] => rfl
  | x :: xs => by simp [D.beqs, D.beq, beqs_refl xs]
def selS (p : List Nat → Bool) : D → List D
  | .str s => if p s = true then [.str s] else []
  | _ => []
theorem flat_str (p : List Nat → Bool) : ∀ xs : List (List Nat), (xs.map D.str).flatMap (selS p) = (xs.filter p).map D.str
  | [] => rfl
  | x :: xs => by
    rw [List.map_cons, List.flatMap_cons, flat_str p xs, List.filter_cons]
    by_cases hp : p x = true <;> simp [selS, hp]
def selI (p : Int → Bool) : D → List D
  | .int s => if p s = true then [.int s] else []
  | _ => []
theorem flat_int (p : Int → Bool) : ∀ xs : List Int, (xs.map D.int).flatMap (selI p) = (xs.filter p).map D.int
  | [] => rfl
  | x :: xs => by
    rw [List.map_cons, List.flatMap_cons, flat_int p xs, List.filter_cons]
    by_cases hp : p x = true <;> simp [selI, hp]
/-- the first of a range that holds -/
theorem first_of (p : Int → Bool) (lo : Int) (n : Nat) {x : Int} (x0 : lo ≤ x) (hx : p x = true) (hl : ∀ j, lo ≤ j → j < x → p j = false) :
    (((List.range n).map fun k : Nat => lo + (k : Int)).filter p) = if x < lo + n then x :: ((((List.range n).map fun k : Nat => lo + (k : Int)).filter p).tail) else [] := by
  obtain ⟨t, ht⟩ : ∃ t : Nat, x = lo + t := ⟨(x - lo).toNat, by omega⟩
  have pre : ∀ m : Nat, m ≤ t → (((List.range m).map fun k : Nat => lo + (k : Int)).filter p) = [] := fun m hm => by
    rw [List.filter_eq_nil_iff]
    intro a ha
    obtain ⟨k, hk, rfl⟩ := List.mem_map.mp ha
    have := List.mem_range.mp hk
    rw [hl (lo + k) (by omega) (by omega)]
    simp
  by_cases z : x < lo + n
  · rw [if_pos z]
    obtain ⟨u, hu⟩ : ∃ u : Nat, n = t + (u + 1) := ⟨n - t - 1, by omega⟩
    rw [hu, List.range_add, List.map_append, List.filter_append, pre t (Nat.le_refl _), List.nil_append, List.range_succ_eq_map]
    have : lo + ((t + 0 : Nat) : Int) = x := by simp; omega
    simp only [List.map_cons, this, List.filter_cons, hx, if_true, List.tail_cons]
  · rw [if_neg z]
    exact pre n (by omega)
section
variable {r : Rn} (o : RnOk r)
include o
def lab (r : Rn) (j : Nat) : List Nat := PC.tx r.cs (shw r j)
def labs (r : Rn) (n : Nat) : List (List Nat) := (List.range n).map (lab r)
omit o in
theorem labs_len (n : Nat) : (labs r n).length = n := by simp [labs]
theorem labs_step (s : Nat) (c : Nat) (hc : r.cop = c) : labs r (s * c + c) = labs r (s * c) ++ List.replicate c (PC.tx r.cs ((r.b + (s : Int) * r.st) % csz r.cs)) := by
  have c0 := o.c0
  simp only [labs, List.range_add, List.map_append, List.map_map]
  congr 1
  rw [List.eq_replicate_iff]
  refine ⟨by simp, fun x hx => ?_⟩
  obtain ⟨t, ht, rfl⟩ := List.mem_map.mp hx
  have ht := List.mem_range.mp ht
  have e : ((s * c + t : Nat) : Int) / (c : Int) = s := by
    have : ((s * c + t : Nat) : Int) = (t : Int) + (s : Int) * (c : Int) := by push_cast; omega
    rw [this, Int.add_mul_ediv_right _ _ (by omega), Int.ediv_eq_zero_of_lt (by omega) (by omega), Int.zero_add]
  simp only [Function.comp, lab, shw, hc, e]
theorem lab_low (l : Low r.cs) (n : Nat) : ∀ s ∈ labs r n, ∀ c ∈ s, c < 55296 := fun s hs => by
  obtain ⟨j, _, rfl⟩ := List.mem_map.mp hs
  exact low_Tx (tx_Tx o.c.dls _) l
theorem lab_eq {n : Int} (n0 : 0 ≤ n) (n1 : n < csz r.cs) (j : Nat) : lab r j = PC.tx r.cs n ↔ shw r j = n := by
  obtain ⟨a, b⟩ := shw_bnd o (j : Int)
  exact PC.tx_inj o.c.dls a b n0 n1
theorem filt_len {n : Int} (n0 : 0 ≤ n) (n1 : n < csz r.cs) {f : Option Int} (h : IsSer (csz r.cs) r.b r.st n f) : (((labs r (r.many * r.cop).toNat).filter fun s => decide (s = PC.tx r.cs n)).length : Int) = tms r f := by
  have key : ((labs r (r.many * r.cop).toNat).filter fun s => decide (s = PC.tx r.cs n)).length = ((List.range (r.many * r.cop).toNat).filter fun j => decide (shw r (j : Nat) = n)).length := by
    rw [labs, List.filter_map, List.length_map]
    congr 1
    apply List.filter_congr
    intro j _
    simp only [Function.comp, decide_eq_decide]
    exact lab_eq o n0 n1 j
  rw [key]
  cases f with
  | none =>
    have : ((List.range (r.many * r.cop).toNat).filter fun j => decide (shw r (j : Nat) = n)) = [] := by
      rw [List.filter_eq_nil_iff]
      intro j _
      simp [shw_no o h (j := j)]
    rw [this]
    rfl
  | some f =>
    rw [tms_hits o h.1 h.2.1]
    simp only [hitsL]
    congr 2
    apply List.filter_congr
    intro j _
    simp only [decide_eq_decide]
    exact shw_iff o h
/-- the law's later labels -/
def later (r : Rn) (n i : Int) : List Int := ((List.range (r.many * r.cop - i).toNat).map fun k : Nat => i + (k : Int)).filter fun x => decide (shw r x = n)
theorem later_head {n i : Int} (i0 : 0 ≤ i) {f : Option Int} (h : IsSer (csz r.cs) r.b r.st n f) : (nxl r i f = none ∧ later r n i = []) ∨ ∃ x l, nxl r i f = some x ∧ later r n i = x :: l ∧ i ≤ x ∧ x < r.many * r.cop := by
  cases f with
  | none =>
    refine .inl ⟨rfl, ?_⟩
    unfold later
    rw [List.filter_eq_nil_iff]
    intro x _
    simp [shw_no o h (j := x)]
  | some f =>
    obtain ⟨x, x0, x1, x2, e⟩ := nxl_spec o h.1 h.2.1 i0
    have fo := first_of (fun x => decide (shw r x = n)) i (r.many * r.cop - i).toNat x0 (by rw [decide_eq_true_eq]; exact (shw_iff o h).mpr x1) (fun j j0 j1 => by rw [decide_eq_false_iff_not]; exact fun z => x2 j j0 j1 ((shw_iff o h).mp z))
    unfold later
    by_cases z : x < r.many * r.cop
    · rw [if_pos (by omega)] at fo
      rw [if_pos z] at e
      exact .inr ⟨x, _, e, fo, x0, z⟩
    · rw [if_neg z] at e
      have z2 : ¬ x < i + ((r.many * r.cop - i).toNat : Int) := by omega
      rw [if_neg z2] at fo
      exact .inl ⟨e, fo⟩
end
section
variable {P : Nat → Option Fn}
theorem c_first_again (S : PRun2 P) (hF : P Lib.runs.f_first_again = some Lib.runs.fn_first_again) (k : Nat) {r : Rn} (o : RnOk r) (h : Hp) : callV (sem P (k + 4)) Lib.runs.f_first_again [.val (rD r)] h = .ok (.val (optD (if rnd (csz r.cs) r.st < r.many then some (rnd (csz r.cs) r.st) else none))) h := by
  refine call_val (by simp [Rv.free, D.free]) rfl (hc := []) ?_ (optD_free _)
  rw [sem_succ hF]
  refine runFn_eq (ρ := [some (rD r), none]) ?_ rfl rfl
  have cn := fun h => c_need_run S k o h
  have cr := fun h => c_round S.toPRun (k + 1) o.c (stb o) h
  have i0 : ∀ h, idxV h (.val (rD r)) (.val (.int 0)) = .ok (.val (cD r.cs)) h := fun h => rfl
  have i2 : ∀ h, idxV h (.val (rD r)) (.val (.int 2)) = .ok (.val (.int r.st)) h := fun h => rfl
  have i3 : ∀ h, idxV h (.val (rD r)) (.val (.int 3)) = .ok (.val (.int r.many)) h := fun h => rfl
  by_cases z : rnd (csz r.cs) r.st < r.many
  · simp [Lib.runs.b_first_again, exs, ex, ev, evs, tst, boxOne, cn, i0, i2, i3, cr, z, optD]
  · simp [Lib.runs.b_first_again, exs, ex, ev, evs, tst, boxOne, cn, i0, i2, i3, cr, z, optD]
end
end G

/-! GK: the evaluator once more, by the terms' form alone, for the kernel. -/
namespace G
section
variable (C : Nat → List D → Hp → R Rv)
def tv (v : Env → Hp → R Rv) : (Env → Hp → R Rv) × (Env → Hp → R Bool) := (v, fun ρ h => (v ρ h).bind fun x h => opt h (tru h x))
mutual
def qT : E → (Env → Hp → R Rv) × (Env → Hp → R Bool)
  | .c d => tv (fun _ h => .ok (.val d) h)
  | .var i => tv (fun ρ h => match ρ[i]? with
    | some (some d) => .ok (.val d) h
    | _ => .bad)
  | .glb _ d => tv (fun _ h => .ok (.val d) h)
  | .neg a => tv (fun ρ h => ((qT a).1 ρ h).bind fun x h => match x with
    | .val (.int i) => .ok (.val (.int (-i))) h
    | _ => .bad)
  | .not a => ((fun ρ h => ((qT a).2 ρ h).bind fun b h => .ok (.val (.bl (!b))) h), fun ρ h => ((qT a).2 ρ h).bind fun b h => .ok (!b) h)
  | .bin o a b => tv (fun ρ h => ((qT a).1 ρ h).bind fun x h => ((qT b).1 ρ h).bind fun y h => binV h o x y)
  | .cmp o a b => tv (fun ρ h => ((qT a).1 ρ h).bind fun x h => ((qT b).1 ρ h).bind fun y h => cmpV h o x y)
  | .ch o o' a b c => tv (fun ρ h => ((qT a).1 ρ h).bind fun x h => ((qT b).1 ρ h).bind fun y h => (cmpV h o x y).bind fun z h => match z with
    | .val (.bl true) => ((qT c).1 ρ h).bind fun w h => cmpV h o' y w
    | .val (.bl false) => .ok (.val (.bl false)) h
    | _ => .bad)
  | .ch3 o o' o'' a b c d => tv (fun ρ h => ((qT a).1 ρ h).bind fun x h => ((qT b).1 ρ h).bind fun y h => match y with
    | .val (.int i) => (cmpV h o x (.val (.int i))).bind fun z h => match z with
      | .val (.bl true) => ((qT c).1 ρ h).bind fun w h => match w with
        | .val (.int j) => (cmpV h o' (.val (.int i)) (.val (.int j))).bind fun z h => match z with
          | .val (.bl true) => ((qT d).1 ρ h).bind fun u h => cmpV h o'' (.val (.int j)) u
          | .val (.bl false) => .ok (.val (.bl false)) h
          | _ => .bad
        | _ => .bad
      | .val (.bl false) => .ok (.val (.bl false)) h
      | _ => .bad
    | _ => .bad)
  | .and a b => ((fun ρ h => ((qT a).1 ρ h).bind fun x h => match x with
    | .val (.bl true) => (qT b).1 ρ h
    | .val (.bl false) => .ok (.val (.bl false)) h
    | _ => .bad), fun ρ h => ((qT a).2 ρ h).bind fun c h => match c with
    | true => (qT b).2 ρ h
    | false => .ok false h)
  | .or a b => ((fun ρ h => ((qT a).1 ρ h).bind fun x h => match x with
    | .val (.bl true) => .ok (.val (.bl true)) h
    | .val (.bl false) => (qT b).1 ρ h
    | _ => .bad), fun ρ h => ((qT a).2 ρ h).bind fun c h => match c with
    | true => .ok true h
    | false => (qT b).2 ρ h)
  | .ife t a b => tv (fun ρ h => ((qT t).2 ρ h).bind fun c h => match c with
    | true => (qT a).1 ρ h
    | false => (qT b).1 ρ h)
  | .tup es => tv (fun ρ h => ((qsT es).1 ρ h).bind fun rs h => match boxAll h rs with
    | (ds, h1) => when_ (decide (ds.length ≤ lim)) h1 (.val (.tup ds)))
  | .lst es => tv (fun ρ h => ((qsT es).1 ρ h).bind fun rs h => match boxAll h rs with
    | (ds, h1) => when_ (decide (ds.length ≤ lim)) h1 (.new (.lst ds)))
  | .dk ks es => tv (fun ρ h => ((qsT es).1 ρ h).bind fun rs h => match boxAll h rs with
    | (ds, h1) => when_ (decide (ks.length = ds.length) && decide (ks.length ≤ 15) && decide ks.Nodup) h1 (.new (.dk ((ks.map D.str).zip ds))))
  | .dk0 => tv (fun _ h => .ok (.new (.dk [])) h)
  | .dt => tv (fun _ h => .ok (.new (.dt [])) h)
  | .idx a i => tv (fun ρ h => ((qT a).1 ρ h).bind fun x h => ((qT i).1 ρ h).bind fun y h => idxV h x y)
  | .slc a lo hi => tv (fun ρ h => ((qT a).1 ρ h).bind fun x h => (qoT lo ρ h).bind fun l h => (qoT hi ρ h).bind fun u h => slcV h x l u)
  | .rev a => tv (fun ρ h => ((qT a).1 ρ h).bind fun x h => revV h x)
  | .rev2 a => tv (fun ρ h => ((qT a).1 ρ h).bind fun x h => opt h ((lstOf h x).map fun xs => .new (.lst xs.dropLast.reverse)))
  | .call f es => tv (fun ρ h => ((qsT es).1 ρ h).bind fun rs h => callV C f rs h)
  | .b1 b a => tv (fun ρ h => ((qT a).1 ρ h).bind fun x h => b1V h b x)
  | .b2 b a c => tv (fun ρ h => ((qT a).1 ρ h).bind fun x h => ((qT c).1 ρ h).bind fun y h => b2V h b x y)
  | .isi a t => tv (fun ρ h => ((qT a).1 ρ h).bind fun x h => boolR h (tyIs t x h))
  | .mt m o es => tv (fun ρ h => ((qT o).1 ρ h).bind fun x h => match recv h m x with
    | true => ((qsT es).1 ρ h).bind fun rs h => mtV h m x rs
    | false => .bad)
  | .lc own tg it cs elt => tv (fun ρ h => (qiT it ρ h).bind fun p h => (compL p.2 (fun d h => match bindTg (wipeE ρ own) tg d with
      | some ρ1 => ((qsT cs).2 ρ1 h).bind fun b h => match b with
        | true => ((qT elt).1 ρ1 h).bind fun r h => match boxOne h r with
          | (d, h1) => .ok [d] h1
        | false => .ok [] h
      | none => .bad) p.1 h).bind fun ds h => when_ (decide (ds.length ≤ lim)) h (.new (.lst ds)))
  | .lenS own tg it elt => tv (fun ρ h => (qiT it ρ h).bind fun p h => (compL p.2 (fun d h => match bindTg (wipeE ρ own) tg d with
      | some ρ1 => ((qT elt).1 ρ1 h).bind fun r h => match r with
        | .val d => when_ (keyOk d) h [d]
        | _ => .bad
      | none => .bad) p.1 h).bind fun ds h => when_ (decide (ds.length < 4000)) h (.val (.int (dist ds : Nat))))
  | .lc2 own tg it tg1 it1 elt => tv (fun ρ h => (qiT it ρ h).bind fun p h => (compL p.2 (fun d h => match bindTg (wipeE ρ own) tg d with
      | some ρ1 => (qiT it1 ρ1 h).bind fun q h => compL q.2 (fun d h => match bindTg ρ1 tg1 d with
        | some ρ2 => ((qT elt).1 ρ2 h).bind fun r h => match boxOne h r with
          | (d, h1) => .ok [d] h1
        | none => .bad) q.1 h
      | none => .bad) p.1 h).bind fun ds h => when_ (decide (ds.length ≤ lim)) h (.new (.lst ds)))
  | .opq => tv (fun _ _ => .bad)
def qsT : Es → (Env → Hp → R (List Rv)) × (Env → Hp → R Bool)
  | .nil => (fun _ h => .ok [] h, fun _ h => .ok true h)
  | .cons e es => (fun ρ h => ((qT e).1 ρ h).bind fun x h => ((qsT es).1 ρ h).bind fun xs h => .ok (x :: xs) h, fun ρ h => (qT e).2 ρ h)
def qoT : Oe → Env → Hp → R (Option D)
  | .none, _, h => .ok none h
  | .some e, ρ, h => ((qT e).1 ρ h).bind fun x h => match x with
    | .val d => .ok (some d) h
    | _ => .bad
def qiT : It → Env → Hp → R (List D × List (Nat × List D))
  | .seq e, ρ, h => ((qT e).1 ρ h).bind fun x h => opt h ((itemsOf h x).map fun ds => (ds, watch h x))
  | .r1 a, ρ, h => ((qT a).1 ρ h).bind fun x h => match x with
    | .val (.int j) => when_ (small j) h (rangeL 0 1 j.toNat, [])
    | _ => .bad
  | .r2 a b, ρ, h => ((qT a).1 ρ h).bind fun x h => ((qT b).1 ρ h).bind fun y h => match x, y with
    | .val (.int i), .val (.int j) => when_ (small i && small j) h (rangeL i 1 (j - i).toNat, [])
    | _, _ => .bad
  | .r3 a b c, ρ, h => ((qT a).1 ρ h).bind fun x h => ((qT b).1 ρ h).bind fun y h => ((qT c).1 ρ h).bind fun z h => match x, y, z with
    | .val (.int i), .val (.int j), .val (.int k) => when_ (decide (k ≠ 0) && decide (k.natAbs < 1073741824) && PySem.Builtin.Range.small i j k && decide (0 ≤ PySem.Builtin.Range.rangeSize i j k)) h (rangeL i k (rangeN i j k), [])
    | _, _, _ => .bad
  | .enu e, ρ, h => ((qT e).1 ρ h).bind fun x h => opt h ((itemsOf h x).map fun ds => (enumL 0 ds, watch h x))
  | .zip a b, ρ, h => ((qT a).1 ρ h).bind fun x h => ((qT b).1 ρ h).bind fun y h => match itemsOf h x, itemsOf h y with
    | some xs, some ys => .ok (zipL xs ys, watch h x ++ watch h y) h
    | _, _ => .bad
end
mutual
def xT : S → Env → Hp → SR
  | .asg i e, ρ, h => ((qT C e).1 ρ h).st (xa false e) ρ fun r h => match boxOne h r with
    | (d, h1) => .nx (ρ.set i (some d)) h1
  | .asgT is e, ρ, h => ((qT C e).1 ρ h).st (xa false e) ρ fun r h => match r with
    | .val d => match bindTg ρ (.many is) d with
      | some ρ1 => .nx ρ1 h
      | none => match (lstOf h (.val d)).bind fun xs => bindTg ρ (.many is) (.tup xs) with
        | some ρ1 => .nx ρ1 h
        | none => .bad
    | _ => .bad
  | .set o i e, ρ, h => ((qT C e).1 ρ h).st false ρ fun v h => ((qT C o).1 ρ h).st false ρ fun x h => ((qT C i).1 ρ h).st false ρ fun y h => match setV h x y v with
    | some h1 => .nx ρ h1
    | none => .bad
  | .aug i o e, ρ, h => match ρ[i]? with
    | some (some d) => ((qT C e).1 ρ h).st false ρ fun y h => match augV o d y with
      | some i' => .nx (ρ.set i (some (.int i'))) h
      | none => .bad
    | _ => .bad
  | .ex e, ρ, h => ((qT C e).1 ρ h).st (xa false e) ρ fun _ h => .nx ρ h
  | .ife t a b, ρ, h => ((qT C t).2 ρ h).st (xa true t) ρ fun c h => match c with
    | true => xsT a ρ h
    | false => xsT b ρ h
  | .for_ tg it b, ρ, h => (qiT C it ρ h).st false ρ fun p h => forL (fun d ρ => bindTg ρ tg d) p.2 (xsT b) p.1 ρ h
  | .whl t b, ρ, h => whileL (qT C t).2 (xsT b) fuel ρ h
  | .ret e, ρ, h => ((qT C e).1 ρ h).st (xa false e) ρ fun r h => .rt r h
  | .retN, _, h => .rt (.val .non) h
  | .brk, ρ, h => .bk ρ h
  | .cnt, ρ, h => .ct ρ h
  | .pass, ρ, h => .nx ρ h
  | .rse c es, ρ, h => ((qsT C es).1 ρ h).st false ρ fun rs h => match boxAll h rs with
    | (ds, h1) => .exc c ds ρ h1
  | .try_ b hs, ρ, h => match xsT b ρ h with
    | .exc c ds ρ1 h1 => meet hs c ds ρ1 h1
    | r => r
  | .opq, _, _ => .bad
def xsT : Ss → Env → Hp → SR
  | .nil, ρ, h => .nx ρ h
  | .cons s ss, ρ, h => match xT s ρ h with
    | .nx ρ1 h1 => xsT ss ρ1 h1
    | r => r
end
def runT (f : Fn) (ds : List D) (h : Hp) : R Rv :=
  match decide (ds.length = f.np) with
  | true => match xsT C f.body (ds.map some ++ List.replicate (f.ns - f.np) none) h with
    | .nx _ h1 => .ok (.val .non) h1
    | .rt r h1 => .ok r h1
    | .exc c es _ h1 => .exc c es h1
    | _ => .bad
  | false => .bad
end
def semT (P : Nat → Option Fn) : Nat → Nat → List D → Hp → R Rv
  | 0, _, _, _ => .bad
  | k + 1, f, ds, h => match P f with
    | some fn => runT (semT P k) fn ds h
    | none => .bad
section
variable {C : Nat → List D → Hp → R Rv}
mutual
theorem qT_eq : ∀ e : E, (∀ ρ h, (qT C e).1 ρ h = ev C e ρ h) ∧ ∀ ρ h, (qT C e).2 ρ h = tst C e ρ h
  | .c d => by
    refine ⟨fun ρ h => ?_, fun ρ h => ?_⟩ <;> first | (simp only [qT, tv, ev, tst]; done) | (simp only [qT, tv, ev, tst]; rfl)
  | .var i => by
    refine ⟨fun ρ h => ?_, fun ρ h => ?_⟩ <;> first | (simp only [qT, tv, ev, tst]; done) | (simp only [qT, tv, ev, tst]; rfl)
  | .glb x d => by
    refine ⟨fun ρ h => ?_, fun ρ h => ?_⟩ <;> first | (simp only [qT, tv, ev, tst]; done) | (simp only [qT, tv, ev, tst]; rfl)
  | .neg a => by
    refine ⟨fun ρ h => ?_, fun ρ h => ?_⟩ <;> first | (simp only [qT, tv, ev, tst, (qT_eq a).1, (qT_eq a).2]; done) | (simp only [qT, tv, ev, tst, (qT_eq a).1, (qT_eq a).2]; rfl)
  | .not a => by
    refine ⟨fun ρ h => ?_, fun ρ h => ?_⟩ <;> first | (simp only [qT, tv, ev, tst, (qT_eq a).1, (qT_eq a).2]; done) | (simp only [qT, tv, ev, tst, (qT_eq a).1, (qT_eq a).2]; rfl)
  | .bin o a b => by
    refine ⟨fun ρ h => ?_, fun ρ h => ?_⟩ <;> first | (simp only [qT, tv, ev, tst, (qT_eq a).1, (qT_eq a).2, (qT_eq b).1, (qT_eq b).2]; done) | (simp only [qT, tv, ev, tst, (qT_eq a).1, (qT_eq a).2, (qT_eq b).1, (qT_eq b).2]; rfl)
  | .cmp o a b => by
    refine ⟨fun ρ h => ?_, fun ρ h => ?_⟩ <;> first | (simp only [qT, tv, ev, tst, (qT_eq a).1, (qT_eq a).2, (qT_eq b).1, (qT_eq b).2]; done) | (simp only [qT, tv, ev, tst, (qT_eq a).1, (qT_eq a).2, (qT_eq b).1, (qT_eq b).2]; rfl)
  | .ch o o1 a b c => by
    refine ⟨fun ρ h => ?_, fun ρ h => ?_⟩ <;> first | (simp only [qT, tv, ev, tst, (qT_eq a).1, (qT_eq a).2, (qT_eq b).1, (qT_eq b).2, (qT_eq c).1, (qT_eq c).2]; done) | (simp only [qT, tv, ev, tst, (qT_eq a).1, (qT_eq a).2, (qT_eq b).1, (qT_eq b).2, (qT_eq c).1, (qT_eq c).2]; rfl)
  | .ch3 o o1 o2 a b c d => by
    refine ⟨fun ρ h => ?_, fun ρ h => ?_⟩ <;> first | (simp only [qT, tv, ev, tst, (qT_eq a).1, (qT_eq a).2, (qT_eq b).1, (qT_eq b).2, (qT_eq c).1, (qT_eq c).2, (qT_eq d).1, (qT_eq d).2]; done) | (simp only [qT, tv, ev, tst, (qT_eq a).1, (qT_eq a).2, (qT_eq b).1, (qT_eq b).2, (qT_eq c).1, (qT_eq c).2, (qT_eq d).1, (qT_eq d).2]; rfl)
  | .and a b => by
    refine ⟨fun ρ h => ?_, fun ρ h => ?_⟩ <;> first | (simp only [qT, tv, ev, tst, (qT_eq a).1, (qT_eq a).2, (qT_eq b).1, (qT_eq b).2]; done) | (simp only [qT, tv, ev, tst, (qT_eq a).1, (qT_eq a).2, (qT_eq b).1, (qT_eq b).2]; rfl)
  | .or a b => by
    refine ⟨fun ρ h => ?_, fun ρ h => ?_⟩ <;> first | (simp only [qT, tv, ev, tst, (qT_eq a).1, (qT_eq a).2, (qT_eq b).1, (qT_eq b).2]; done) | (simp only [qT, tv, ev, tst, (qT_eq a).1, (qT_eq a).2, (qT_eq b).1, (qT_eq b).2]; rfl)
  | .ife t a b => by
    refine ⟨fun ρ h => ?_, fun ρ h => ?_⟩ <;> first | (simp only [qT, tv, ev, tst, (qT_eq t).1, (qT_eq t).2, (qT_eq a).1, (qT_eq a).2, (qT_eq b).1, (qT_eq b).2]; done) | (simp only [qT, tv, ev, tst, (qT_eq t).1, (qT_eq t).2, (qT_eq a).1, (qT_eq a).2, (qT_eq b).1, (qT_eq b).2]; rfl)
  | .tup es => by
    refine ⟨fun ρ h => ?_, fun ρ h => ?_⟩ <;> first | (simp only [qT, tv, ev, tst, (qsT_eq es).1, (qsT_eq es).2]; done) | (simp only [qT, tv, ev, tst, (qsT_eq es).1, (qsT_eq es).2]; rfl)
  | .lst es => by
    refine ⟨fun ρ h => ?_, fun ρ h => ?_⟩ <;> first | (simp only [qT, tv, ev, tst, (qsT_eq es).1, (qsT_eq es).2]; done) | (simp only [qT, tv, ev, tst, (qsT_eq es).1, (qsT_eq es).2]; rfl)
  | .dk ks es => by
    refine ⟨fun ρ h => ?_, fun ρ h => ?_⟩ <;> first | (simp only [qT, tv, ev, tst, (qsT_eq es).1, (qsT_eq es).2]; done) | (simp only [qT, tv, ev, tst, (qsT_eq es).1, (qsT_eq es).2]; rfl)
  | .dk0 => by
    refine ⟨fun ρ h => ?_, fun ρ h => ?_⟩ <;> first | (simp only [qT, tv, ev, tst]; done) | (simp only [qT, tv, ev, tst]; rfl)
  | .dt => by
    refine ⟨fun ρ h => ?_, fun ρ h => ?_⟩ <;> first | (simp only [qT, tv, ev, tst]; done) | (simp only [qT, tv, ev, tst]; rfl)
  | .idx a i => by
    refine ⟨fun ρ h => ?_, fun ρ h => ?_⟩ <;> first | (simp only [qT, tv, ev, tst, (qT_eq a).1, (qT_eq a).2, (qT_eq i).1, (qT_eq i).2]; done) | (simp only [qT, tv, ev, tst, (qT_eq a).1, (qT_eq a).2, (qT_eq i).1, (qT_eq i).2]; rfl)
  | .slc a lo hi => by
    refine ⟨fun ρ h => ?_, fun ρ h => ?_⟩ <;> first | (simp only [qT, tv, ev, tst, (qT_eq a).1, (qT_eq a).2, qoT_eq lo, qoT_eq hi]; done) | (simp only [qT, tv, ev, tst, (qT_eq a).1, (qT_eq a).2, qoT_eq lo, qoT_eq hi]; rfl)
  | .rev a => by
    refine ⟨fun ρ h => ?_, fun ρ h => ?_⟩ <;> first | (simp only [qT, tv, ev, tst, (qT_eq a).1, (qT_eq a).2]; done) | (simp only [qT, tv, ev, tst, (qT_eq a).1, (qT_eq a).2]; rfl)
  | .rev2 a => by
    refine ⟨fun ρ h => ?_, fun ρ h => ?_⟩ <;> first | (simp only [qT, tv, ev, tst, (qT_eq a).1, (qT_eq a).2]; done) | (simp only [qT, tv, ev, tst, (qT_eq a).1, (qT_eq a).2]; rfl)
  | .call f es => by
    refine ⟨fun ρ h => ?_, fun ρ h => ?_⟩ <;> first | (simp only [qT, tv, ev, tst, (qsT_eq es).1, (qsT_eq es).2]; done) | (simp only [qT, tv, ev, tst, (qsT_eq es).1, (qsT_eq es).2]; rfl)
  | .b1 b a => by
    refine ⟨fun ρ h => ?_, fun ρ h => ?_⟩ <;> first | (simp only [qT, tv, ev, tst, (qT_eq a).1, (qT_eq a).2]; done) | (simp only [qT, tv, ev, tst, (qT_eq a).1, (qT_eq a).2]; rfl)
  | .b2 b a c => by
    refine ⟨fun ρ h => ?_, fun ρ h => ?_⟩ <;> first | (simp only [qT, tv, ev, tst, (qT_eq a).1, (qT_eq a).2, (qT_eq c).1, (qT_eq c).2]; done) | (simp only [qT, tv, ev, tst, (qT_eq a).1, (qT_eq a).2, (qT_eq c).1, (qT_eq c).2]; rfl)
  | .isi a t => by
    refine ⟨fun ρ h => ?_, fun ρ h => ?_⟩ <;> first | (simp only [qT, tv, ev, tst, (qT_eq a).1, (qT_eq a).2]; done) | (simp only [qT, tv, ev, tst, (qT_eq a).1, (qT_eq a).2]; rfl)
  | .mt m o es => by
    refine ⟨fun ρ h => ?_, fun ρ h => ?_⟩ <;> first | (simp only [qT, tv, ev, tst, (qT_eq o).1, (qT_eq o).2, (qsT_eq es).1, (qsT_eq es).2]; done) | (simp only [qT, tv, ev, tst, (qT_eq o).1, (qT_eq o).2, (qsT_eq es).1, (qsT_eq es).2]; rfl)
  | .lc own tg it cs elt => by
    refine ⟨fun ρ h => ?_, fun ρ h => ?_⟩ <;> first | (simp only [qT, tv, ev, tst, qiT_eq it, (qsT_eq cs).1, (qsT_eq cs).2, (qT_eq elt).1, (qT_eq elt).2]; done) | (simp only [qT, tv, ev, tst, qiT_eq it, (qsT_eq cs).1, (qsT_eq cs).2, (qT_eq elt).1, (qT_eq elt).2]; rfl)
  | .lenS own tg it elt => by
    refine ⟨fun ρ h => ?_, fun ρ h => ?_⟩ <;> first | (simp only [qT, tv, ev, tst, qiT_eq it, (qT_eq elt).1, (qT_eq elt).2]; done) | (simp only [qT, tv, ev, tst, qiT_eq it, (qT_eq elt).1, (qT_eq elt).2]; rfl)
  | .lc2 own tg it tg1 it1 elt => by
    refine ⟨fun ρ h => ?_, fun ρ h => ?_⟩ <;> first | (simp only [qT, tv, ev, tst, qiT_eq it, qiT_eq it1, (qT_eq elt).1, (qT_eq elt).2]; done) | (simp only [qT, tv, ev, tst, qiT_eq it, qiT_eq it1, (qT_eq elt).1, (qT_eq elt).2]; rfl)
  | .opq => by
    refine ⟨fun ρ h => ?_, fun ρ h => ?_⟩ <;> first | (simp only [qT, tv, ev, tst]; done) | (simp only [qT, tv, ev, tst]; rfl)
theorem qsT_eq : ∀ es : Es, (∀ ρ h, (qsT C es).1 ρ h = evs C es ρ h) ∧ ∀ ρ h, (qsT C es).2 ρ h = tsts C es ρ h
  | .nil => ⟨fun _ _ => by simp only [qsT, evs], fun _ _ => by simp only [qsT, tsts]⟩
  | .cons e es => ⟨fun ρ h => by simp only [qsT, evs, (qT_eq e).1, (qsT_eq es).1], fun ρ h => by simp only [qsT, tsts, (qT_eq e).2]⟩
theorem qoT_eq : ∀ (o : Oe) ρ h, qoT C o ρ h = evo C o ρ h
  | .none, ρ, h => by simp only [qoT, evo]
  | .some e, ρ, h => by first | (simp only [qoT, evo, (qT_eq e).1]; done) | (simp only [qoT, evo, (qT_eq e).1]; rfl)
theorem qiT_eq : ∀ (i : It) ρ h, qiT C i ρ h = evi C i ρ h
  | .seq e, ρ, h => by first | (simp only [qiT, evi, (qT_eq e).1]; done) | (simp only [qiT, evi, (qT_eq e).1]; rfl)
  | .r1 a, ρ, h => by first | (simp only [qiT, evi, (qT_eq a).1]; done) | (simp only [qiT, evi, (qT_eq a).1]; rfl)
  | .r2 a b, ρ, h => by first | (simp only [qiT, evi, (qT_eq a).1, (qT_eq b).1]; done) | (simp only [qiT, evi, (qT_eq a).1, (qT_eq b).1]; rfl)
  | .r3 a b c, ρ, h => by first | (simp only [qiT, evi, (qT_eq a).1, (qT_eq b).1, (qT_eq c).1]; done) | (simp only [qiT, evi, (qT_eq a).1, (qT_eq b).1, (qT_eq c).1]; rfl)
  | .enu e, ρ, h => by first | (simp only [qiT, evi, (qT_eq e).1]; done) | (simp only [qiT, evi, (qT_eq e).1]; rfl)
  | .zip a b, ρ, h => by first | (simp only [qiT, evi, (qT_eq a).1, (qT_eq b).1]; done) | (simp only [qiT, evi, (qT_eq a).1, (qT_eq b).1]; rfl)
end
mutual
theorem xT_eq : ∀ (s : S) ρ h, xT C s ρ h = ex C s ρ h
  | .asg i e, ρ, h => by first | (simp only [xT, ex, (qT_eq e).1]; done) | (simp only [xT, ex, (qT_eq e).1]; rfl)
  | .asgT is e, ρ, h => by first | (simp only [xT, ex, (qT_eq e).1]; done) | (simp only [xT, ex, (qT_eq e).1]; rfl)
  | .set o i e, ρ, h => by first | (simp only [xT, ex, (qT_eq o).1, (qT_eq i).1, (qT_eq e).1]; done) | (simp only [xT, ex, (qT_eq o).1, (qT_eq i).1, (qT_eq e).1]; rfl)
  | .aug i o e, ρ, h => by first | (simp only [xT, ex, (qT_eq e).1]; done) | (simp only [xT, ex, (qT_eq e).1]; rfl)
  | .ex e, ρ, h => by first | (simp only [xT, ex, (qT_eq e).1]; done) | (simp only [xT, ex, (qT_eq e).1]; rfl)
  | .ife t a b, ρ, h => by first | (simp only [xT, ex, (qT_eq t).2, xsT_eq a, xsT_eq b]; done) | (simp only [xT, ex, (qT_eq t).2, xsT_eq a, xsT_eq b]; rfl)
  | .ret e, ρ, h => by first | (simp only [xT, ex, (qT_eq e).1]; done) | (simp only [xT, ex, (qT_eq e).1]; rfl)
  | .retN, ρ, h => by first | (simp only [xT, ex]; done) | (simp only [xT, ex]; rfl)
  | .brk, ρ, h => by first | (simp only [xT, ex]; done) | (simp only [xT, ex]; rfl)
  | .cnt, ρ, h => by first | (simp only [xT, ex]; done) | (simp only [xT, ex]; rfl)
  | .pass, ρ, h => by first | (simp only [xT, ex]; done) | (simp only [xT, ex]; rfl)
  | .rse c es, ρ, h => by first | (simp only [xT, ex, (qsT_eq es).1]; done) | (simp only [xT, ex, (qsT_eq es).1]; rfl)
  | .try_ b hs, ρ, h => by first | (simp only [xT, ex, xsT_eq b]; done) | (simp only [xT, ex, xsT_eq b]; rfl)
  | .opq, ρ, h => by first | (simp only [xT, ex]; done) | (simp only [xT, ex]; rfl)
  | .for_ tg it b, ρ, h => by
    have e : xsT C b = exs C b := funext fun ρ => funext fun h => xsT_eq b ρ h
    first | (simp only [xT, ex, qiT_eq, e]; done) | (simp only [xT, ex, qiT_eq, e]; rfl)
  | .whl t b, ρ, h => by
    have e : xsT C b = exs C b := funext fun ρ => funext fun h => xsT_eq b ρ h
    have e2 : (qT C t).2 = tst C t := funext fun ρ => funext fun h => (qT_eq t).2 ρ h
    first | (simp only [xT, ex, e, e2]; done) | (simp only [xT, ex, e, e2]; rfl)
theorem xsT_eq : ∀ (s : Ss) ρ h, xsT C s ρ h = exs C s ρ h
  | .nil, ρ, h => by simp only [xsT, exs]
  | .cons s ss, ρ, h => by first | (simp only [xsT, exs, xT_eq s, xsT_eq ss]; done) | (simp only [xsT, exs, xT_eq s, xsT_eq ss]; rfl)
end
theorem runT_eq (f : Fn) (ds : List D) (h : Hp) : runT C f ds h = runFn C f ds h := by
  unfold runT runFn
  first | (simp only [xsT_eq]; done) | (simp only [xsT_eq]; rfl)
end
theorem semT_eq (P : Nat → Option Fn) : ∀ k : Nat, semT P k = sem P k
  | 0 => by funext f ds h; rfl
  | k + 1 => by
    funext f ds h
    first | (simp only [semT, sem, semT_eq P k, runT_eq]; done) | (simp only [semT, sem, semT_eq P k, runT_eq]; rfl)
end G

/-! LX: tools for what is refused. -/
namespace G
open PC
theorem semK {P : Nat → Option Fn} {k f : Nat} {ds : List D} {h : Hp} {r : R Rv} (e : semT P k f ds h = r) : sem P k f ds h = r := by rw [← semT_eq]; exact e
theorem runK {C : Nat → List D → Hp → R Rv} {f : Fn} {ds : List D} {h : Hp} {r : R Rv} (e : runT C f ds h = r) : runFn C f ds h = r := by rw [← runT_eq]; exact e
theorem exsK {C : Nat → List D → Hp → R Rv} {W : Ss} {ρ : Env} {h : Hp} {r : SR} (e : xsT C W ρ h = r) : exs C W ρ h = r := by rw [← xsT_eq]; exact e
theorem boxV (h : Hp) : ∀ ds : List D, boxAll h (ds.map .val) = (ds, h)
  | [] => rfl
  | d :: ds => by simp only [List.map_cons, boxAll, boxOne, boxV h ds]
theorem freeV : ∀ ds : List D, (ds.map Rv.val).all Rv.free = D.frees ds
  | [] => rfl
  | d :: ds => by simp only [List.map_cons, List.all_cons, Rv.free, D.frees, freeV ds]
section
variable {C : Nat → List D → Hp → R Rv} {f : Nat} {ds : List D} {h : Hp}
/-- a call, in an own heap or in this one -/
theorem call_ok {x : D} (H0 : D.frees ds = true → C f ds [] = .ok (.val x) []) (H1 : D.frees ds = false → C f ds h = .ok (.val x) h) (fx : x.free = true) : callV C f (ds.map .val) h = .ok (.val x) h := by
  unfold callV
  rw [freeV]
  cases e : D.frees ds with
  | true =>
    simp only [boxV, H0 e]
    cases x <;> first | (cases fx; done) | rfl | (simp only [unbox, Rv.free, fx, if_true])
  | false => simp only [boxV, H1 e]
theorem call_ex {c : Nat} {es : List D} (H0 : D.frees ds = true → C f ds [] = .exc c es []) (H1 : D.frees ds = false → C f ds h = .exc c es h) (fe : D.frees es = true) : callV C f (ds.map .val) h = .exc c es h := by
  unfold callV
  rw [freeV]
  cases e : D.frees ds with
  | true => simp only [boxV, H0 e, fe]
  | false => simp only [boxV, H1 e]
theorem runFn_exc {np ns : Nat} {b : Ss} {ρ ρ' : Env} {c : Nat} {es : List D} {h1 : Hp} (e : exs C b ρ h = .exc c es ρ' h1) (hl : ds.length = np) (hρ : ds.map some ++ List.replicate (ns - np) none = ρ) : runFn C ⟨np, ns, b⟩ ds h = .exc c es h1 := by
  unfold runFn
  simp only [hl, decide_true, hρ, e]
end
theorem forL_iv {bind : D → Env → Option Env} {ws : List (Nat × List D)} {body : Env → Hp → SR} (Iv : Env → Hp → Prop) (hw : ∀ ρ h, Iv ρ h → same h ws = true) : ∀ (ds : List D), (∀ d ∈ ds, ∀ ρ h, Iv ρ h → ∃ ρ1 ρ2 h2, bind d ρ = some ρ1 ∧ body ρ1 h = .nx ρ2 h2 ∧ Iv ρ2 h2) → ∀ ρ h, Iv ρ h → ∃ ρ' h', forL bind ws body ds ρ h = .nx ρ' h' ∧ Iv ρ' h'
  | [], _, ρ, h, v => ⟨ρ, h, by simp only [forL, hw ρ h v], v⟩
  | d :: ds, H, ρ, h, v => by
    obtain ⟨ρ1, ρ2, h2, e1, e2, v2⟩ := H d (by simp) ρ h v
    obtain ⟨ρ', h', e, v'⟩ := forL_iv Iv hw ds (fun x hx => H x (by simp [hx])) ρ2 h2 v2
    exact ⟨ρ', h', by simp only [forL, hw ρ h v, e1, e2, e], v'⟩
theorem eqV_nn {h : Hp} {xs : List D} (k : ∀ x ∈ xs, ∀ h', dok h' 59 x = true) : eqV h (.new (.lst xs)) (.new (.lst xs)) = some true := by
  have e1 : (h ++ [O.lst xs, O.lst xs])[h.length]? = some (.lst xs) := by simp
  have e2 : (h ++ [O.lst xs, O.lst xs])[h.length + 1]? = some (.lst xs) := by
    rw [List.getElem?_append_right (by omega)]
    simp
  have ka : xs.all (dok (h ++ [O.lst xs, O.lst xs]) 59) = true := by rw [List.all_eq_true]; exact fun x hx => k x hx _
  have d1 : dok (h ++ [O.lst xs, O.lst xs]) 60 (.ref h.length) = true := by simp only [dok, e1, Option.bind_some, lstIn, ka]
  have d2 : dok (h ++ [O.lst xs, O.lst xs]) 60 (.ref (h.length + 1)) = true := by simp only [dok, e2, Option.bind_some, lstIn, ka]
  simp only [eqV, d1, d2, Bool.and_self, if_true]
  simp only [deq, e1, e2, Option.bind_some, lstIn]
  rw [all2_refl xs fun x hx => deq_refl _ 59 x (k x hx _)]
/-- the items of a comprehension one by one -/
theorem compL_map {ws : List (Nat × List D)} {g : D → Hp → R (List D)} {F : D → D} {h : Hp} (hw : same h ws = true) : ∀ ds : List D, (∀ d ∈ ds, g d h = .ok [F d] h) → compL ws g ds h = .ok (ds.map F) h
  | [], _ => by simp only [compL, hw, List.map_nil]
  | d :: ds, H => by
    simp only [compL, hw, H d (by simp), compL_map hw ds fun x hx => H x (by simp [hx]), List.map_cons, List.singleton_append]
/-! ### numbers, dials, texts that are none -/
/-- a value that stands and is no whole number -/
def NotI (h : Hp) : D → Prop
  | .int _ => False
  | .ref n => ∃ xs, h[n]? = some (.lst xs)
  | _ => True
def NotS (h : Hp) : D → Prop
  | .str _ => False
  | .ref n => ∃ xs, h[n]? = some (.lst xs)
  | _ => True
def NotT (h : Hp) : D → Prop
  | .tup _ => False
  | .ktup _ => False
  | .ref n => ∃ xs, h[n]? = some (.lst xs)
  | _ => True
theorem ty_I {h : Hp} {d : D} (n : NotI h d) : tyIs .int (.val d) h = some false ∨ (tyIs .int (.val d) h = some true ∧ tyIs .bool (.val d) h = some true) := by
  cases d with
  | int _ => exact n.elim
  | bl _ => exact .inr ⟨rfl, rfl⟩
  | ref m => obtain ⟨xs, e⟩ := n; exact .inl (by simp [tyIs, objOf, e, tyO])
  | _ => exact .inl rfl
theorem ty_S {h : Hp} {d : D} (n : NotS h d) : tyIs .str (.val d) h = some false := by
  cases d with
  | str _ => exact n.elim
  | ref m => obtain ⟨xs, e⟩ := n; simp [tyIs, objOf, e, tyO]
  | _ => rfl
theorem ty_T {h : Hp} {d : D} (n : NotT h d) : tyIs .tuple (.val d) h = some false := by
  cases d with
  | tup _ => exact n.elim
  | ktup _ => exact n.elim
  | ref m => obtain ⟨xs, e⟩ := n; simp [tyIs, objOf, e, tyO]
  | _ => rfl
section
variable {P : Nat → Option Fn}
theorem s_whole_no (hP : P Lib.counters.f_is_whole = some Lib.counters.fn_is_whole) (k : Nat) {d : D} (least most : D) {h : Hp} (n : NotI h d) : sem P (k + 1) Lib.counters.f_is_whole [d, least, most] h = .ok (.val (.bl false)) h := by
  rw [sem_succ hP]
  refine runFn_eq (ρ := [some d, some least, some most]) ?_ rfl rfl
  rcases ty_I n with e | ⟨e, e2⟩
  · simp [Lib.counters.b_is_whole, exs, ex, ev, tst, e]
  · simp [Lib.counters.b_is_whole, exs, ex, ev, tst, e, e2]
theorem NotI.nil {h : Hp} {d : D} (n : NotI h d) (f : d.free = true) : NotI [] d := by
  cases d <;> first | exact n | (cases f)
theorem NotS.nil {h : Hp} {d : D} (n : NotS h d) (f : d.free = true) : NotS [] d := by
  cases d <;> first | exact n | (cases f)
theorem NotT.nil {h : Hp} {d : D} (n : NotT h d) (f : d.free = true) : NotT [] d := by
  cases d <;> first | exact n | (cases f)
theorem c_whole_no (hP : P Lib.counters.f_is_whole = some Lib.counters.fn_is_whole) (k : Nat) {d : D} (least most : D) {h : Hp} (n : NotI h d) : callV (sem P (k + 1)) Lib.counters.f_is_whole [.val d, .val least, .val most] h = .ok (.val (.bl false)) h :=
  call_ok (ds := [d, least, most]) (fun f => s_whole_no hP k least most (n.nil (by simp [D.frees] at f; exact f.1))) (fun _ => s_whole_no hP k least most n) rfl
theorem s_dial_no (hP : P Lib.counters.f_is_dial = some Lib.counters.fn_is_dial) (k : Nat) {d : D} {h : Hp} (n : NotS h d) : sem P (k + 1) Lib.counters.f_is_dial [d] h = .ok (.val (.bl false)) h := by
  rw [sem_succ hP]
  refine runFn_eq (ρ := [some d, none]) ?_ rfl rfl
  simp [Lib.counters.b_is_dial, exs, ex, ev, tst, ty_S n]
/-- no dial -/
structure NoDial (P : Nat → Option Fn) (h : Hp) (d : D) : Prop where
  at_ : ∀ k, sem P (k + 1) Lib.counters.f_is_dial [d] h = .ok (.val (.bl false)) h
  em : d.free = true → ∀ k, sem P (k + 1) Lib.counters.f_is_dial [d] [] = .ok (.val (.bl false)) []
theorem NoDial.of (hP : P Lib.counters.f_is_dial = some Lib.counters.fn_is_dial) {d : D} {h : Hp} (n : NotS h d) : NoDial P h d := ⟨fun k => s_dial_no hP k n, fun f k => s_dial_no hP k (n.nil f)⟩
theorem NoDial.nil {d : D} {h : Hp} (n : NoDial P h d) (f : d.free = true) : NoDial P [] d := ⟨n.em f, n.em⟩
theorem NoDial.call {d : D} {h : Hp} (n : NoDial P h d) (k : Nat) : callV (sem P (k + 1)) Lib.counters.f_is_dial [.val d] h = .ok (.val (.bl false)) h :=
  call_ok (ds := [d]) (fun f => n.em (by simpa [D.frees] using f) k) (fun _ => n.at_ k) rfl
theorem nc_bad (dial : P Lib.counters.f_is_dial = some Lib.counters.fn_is_dial) (k : Nat) (x : Option D) {h : Hp} {d : D} (n : NoDial P h d) (post : List D) : ∀ (cs : List (List Nat)), (∀ s ∈ cs, DialOk s) → ∀ (j : Int) (o o2 : Option D), ∃ ρ', forL (fun d ρ => bindTg ρ (.many [1, 2]) d) [] (exs (sem P (k + 1)) ncB) (enumL j (cs.map .str ++ d :: post)) [x, o, o2] h = .exc 4 [.int (j + cs.length)] ρ' h
  | [], _, j, o, o2 => by
    have bt : bindTg [x, o, o2] (.many [1, 2]) (.tup [.int j, d]) = some [x, some (.int j), some d] := rfl
    have cd := n.call k
    refine ⟨[x, some (.int j), some d], ?_⟩
    have st : exs (sem P (k + 1)) ncB [x, some (.int j), some d] h = .exc 4 [.int j] [x, some (.int j), some d] h := by
      simp [ncB, exs, ex, tst, ev, evs, cd, boxAll, boxOne]
    simp only [List.map_nil, List.nil_append, enumL, forL, same, bt, st, List.length_nil]
    simp
  | s :: r, hk, j, o, o2 => by
    obtain ⟨ρ', e⟩ := nc_bad dial k x n post r (fun t ht => hk t (by simp [ht])) (j + 1) (some (.int j)) (some (.str s))
    refine ⟨ρ', ?_⟩
    have cd := fun h => c_dial0 dial k (hk s (by simp)) h
    have st : exs (sem P (k + 1)) ncB [x, some (.int j), some (.str s)] h = .nx [x, some (.int j), some (.str s)] h := by
      simp [ncB, exs, ex, tst, ev, evs, cd]
    have bt : bindTg [x, o, o2] (.many [1, 2]) (.tup [.int j, .str s]) = some [x, some (.int j), some (.str s)] := rfl
    rw [List.map_cons, List.cons_append]
    simp only [enumL, forL, same, bt, st, e, List.length_cons]
    rw [show j + 1 + (r.length : Int) = j + ((r.length + 1 : Nat) : Int) by omega]
def ncI : S := .ife (.or (.not (.isi (.var 0) .tuple)) (.not (.ch .le .le (.c (.int 1)) (.b1 .len (.var 0)) (.glb 21 Lib.counters.k_MOST_DIALS)))) (.cons (.rse 4 (.cons (.c .non) .nil)) .nil) .nil
theorem nc_eb : Lib.counters.b_need_counter = .cons ncI (.cons (.for_ (.many [1, 2]) (.enu (.var 0)) ncB) (.cons (.ret (.var 0)) .nil)) := rfl
theorem s_need_bad (dial : P Lib.counters.f_is_dial = some Lib.counters.fn_is_dial) (needc : P Lib.counters.f_need_counter = some Lib.counters.fn_need_counter) (k : Nat) {h : Hp} {d : D} (n : NoDial P h d) {post : List D} {cs : List (List Nat)} (hk : ∀ s ∈ cs, DialOk s) (hl : cs.length + post.length ≤ 11) :
    sem P (k + 2) Lib.counters.f_need_counter [.tup (cs.map .str ++ d :: post)] h = .exc 4 [.int cs.length] h := by
  rw [sem_succ needc]
  obtain ⟨ρ', e⟩ := nc_bad dial k (some (.tup (cs.map .str ++ d :: post))) n post cs hk 0 none none
  refine runFn_exc (ρ := [some (.tup (cs.map .str ++ d :: post)), none, none]) (ρ' := ρ') ?_ rfl rfl
  have ll : (cs.map D.str ++ d :: post).length = cs.length + post.length + 1 := by simp; omega
  have l2 : ∀ h, b1V h .len (.val (.tup (cs.map .str ++ d :: post))) = .ok (.val (.int ((cs.length + post.length + 1 : Nat) : Int))) h := fun h => by
    have : (cs.length + post.length + 1) ≤ lim := by simp only [lim]; omega
    simp only [b1V, lenOf, ll, Option.bind_some, this, if_true, r_opt]
  have a1 : ¬ (((cs.length + post.length + 1 : Nat) : Int) < 1) := by omega
  have a2 : ¬ ((12 : Int) < ((cs.length + post.length + 1 : Nat) : Int)) := by omega
  have ty : tyIs .tuple (.val (.tup (cs.map .str ++ d :: post))) h = some true := rfl
  have e1 : ex (sem P (k + 1)) ncI [some (.tup (cs.map .str ++ d :: post)), none, none] h = .nx [some (.tup (cs.map .str ++ d :: post)), none, none] h := by
    unfold ncI
    generalize ((cs.length + post.length + 1 : Nat) : Int) = L at *
    simp only [ex, tst, ev, r_bind, List.getElem?_cons_zero, ty, r_bool, tru_b, r_opt, Bool.not_true, l2, Lib.counters.k_MOST_DIALS, cmp_le, decide_eq_false a1, decide_eq_false a2, Bool.not_false, r_st, exs]
  have ei : evi (sem P (k + 1)) (.enu (.var 0)) [some (.tup (cs.map .str ++ d :: post)), none, none] h = .ok (enumL 0 (cs.map .str ++ d :: post), []) h := by
    simp only [evi, ev, List.getElem?_cons_zero, r_bind, itemsOf, Option.map_some, r_opt, watch]
  rw [nc_eb]
  simp only [exs, e1]
  rw [ex_for ei]
  dsimp only
  rw [e]
  simp
theorem s_need_none (needc : P Lib.counters.f_need_counter = some Lib.counters.fn_need_counter) (k : Nat) {h : Hp} {d : D} (n : NotT h d) : sem P (k + 2) Lib.counters.f_need_counter [d] h = .exc 4 [.non] h := by
  rw [sem_succ needc]
  refine runFn_exc (ρ := [some d, none, none]) (ρ' := [some d, none, none]) ?_ rfl rfl
  rw [nc_eb]
  simp [ncI, exs, ex, tst, ev, evs, ty_T n, boxAll, boxOne]
/-- no counter: what is told of it -/
structure NoC (P : Nat → Option Fn) (h : Hp) (d v : D) : Prop where
  at_ : ∀ k, sem P (k + 2) Lib.counters.f_need_counter [d] h = .exc 4 [v] h
  em : d.free = true → ∀ k, sem P (k + 2) Lib.counters.f_need_counter [d] [] = .exc 4 [v] []
  fv : v.free = true
theorem NoC.nil {d v : D} {h : Hp} (n : NoC P h d v) (f : d.free = true) : NoC P [] d v := ⟨n.em f, n.em, n.fv⟩
theorem NoC.call {d v : D} {h : Hp} (n : NoC P h d v) (k : Nat) : callV (sem P (k + 2)) Lib.counters.f_need_counter [.val d] h = .exc 4 [v] h :=
  call_ex (ds := [d]) (fun f => n.em (by simpa [D.frees] using f) k) (fun _ => n.at_ k) (by simp [D.frees, n.fv])
theorem NoC.none (needc : P Lib.counters.f_need_counter = some Lib.counters.fn_need_counter) {d : D} {h : Hp} (n : NotT h d) : NoC P h d .non := ⟨fun k => s_need_none needc k n, fun f k => s_need_none needc k (n.nil f), rfl⟩
theorem frees_mem : ∀ {l : List D} {d : D}, D.frees l = true → d ∈ l → d.free = true
  | x :: l, d, f, m => by
    simp only [D.frees, Bool.and_eq_true] at f
    rcases List.mem_cons.mp m with z | z
    · rw [z]; exact f.1
    · exact frees_mem f.2 z
theorem NoC.dial (dial : P Lib.counters.f_is_dial = some Lib.counters.fn_is_dial) (needc : P Lib.counters.f_need_counter = some Lib.counters.fn_need_counter) {h : Hp} {d : D} (n : NoDial P h d) {post : List D} {cs : List (List Nat)} (hk : ∀ s ∈ cs, DialOk s) (hl : cs.length + post.length ≤ 11) : NoC P h (.tup (cs.map .str ++ d :: post)) (.int cs.length) :=
  ⟨fun k => s_need_bad dial needc k n hk hl, fun f k => s_need_bad dial needc k (n.nil (frees_mem (by simpa [D.free] using f) (by simp))) hk hl, rfl⟩
/-! ### texts -/
theorem s_text_no1 (hP : P Lib.counters.f_is_text = some Lib.counters.fn_is_text) (k : Nat) (c : D) {d : D} {h : Hp} (n : NotS h d) : sem P (k + 1) Lib.counters.f_is_text [c, d] h = .ok (.val (.bl false)) h := by
  rw [sem_succ hP]
  refine runFn_eq (ρ := [some c, some d, none, none]) ?_ rfl rfl
  simp [Lib.counters.b_is_text, exs, ex, ev, tst, ty_S n]
theorem s_text_no2 (hP : P Lib.counters.f_is_text = some Lib.counters.fn_is_text) (k : Nat) {cs : List (List Nat)} (c : Ctr cs) {t : List Nat} (tl : t.length ≤ 1000) (n : t.length ≠ cs.length) (h : Hp) : sem P (k + 1) Lib.counters.f_is_text [cD cs, .str t] h = .ok (.val (.bl false)) h := by
  rw [sem_succ hP]
  refine runFn_eq (ρ := [some (cD cs), some (.str t), none, none]) ?_ rfl rfl
  have le := c.le
  have l1 := fun h => len_str (s := t) tl h
  have l2 := fun h => len_cD (cs := cs) (by omega) h
  have n' : ¬ ((t.length : Int) = (cs.length : Int)) := by omega
  simp [Lib.counters.b_is_text, exs, ex, ev, tst, tyIs, l1, l2, n']
theorem isT_gen (h : Hp) (g : D → Hp → R (List D)) (H : ∀ c s, g (.tup [.str [c], .str s]) h = .ok [.bl (decide (c ∈ s))] h) : ∀ (cs : List (List Nat)) (t : List Nat), compL [] g (zipL (chars t) (cs.map .str)) h = .ok ((t.zip cs).map fun p => .bl (decide (p.1 ∈ p.2))) h
  | [], t => by cases t <;> rfl
  | s :: r, [] => rfl
  | s :: r, c :: t => by
    have i := isT_gen h g H r t
    simp only [chars] at i
    simp only [chars, List.map_cons, zipL, compL, same, H c s, i, List.zip_cons_cons, List.singleton_append]
theorem bools_map {α : Type} (f : α → Bool) : ∀ l : List α, boolsOf (l.map fun x => .bl (f x)) = some (l.map f)
  | [] => rfl
  | x :: l => by simp only [List.map_cons, boolsOf, bools_map f l, Option.map_some]
theorem s_text_gen (hP : P Lib.counters.f_is_text = some Lib.counters.fn_is_text) (k : Nat) {cs : List (List Nat)} (c : Ctr cs) {t : List Nat} (tl : t.length = cs.length) (h : Hp) : sem P (k + 1) Lib.counters.f_is_text [cD cs, .str t] h = .ok (.val (.bl ((t.zip cs).all fun p => decide (p.1 ∈ p.2)))) h := by
  rw [sem_succ hP]
  refine runFn_eq (ρ := [some (cD cs), some (.str t), none, none]) ?_ rfl rfl
  have le := c.le
  have l1 := fun h => len_str (s := t) (by omega) h
  have l2 := fun h => len_cD (cs := cs) (by omega) h
  have rl : ((t.zip cs).map fun p => D.bl (decide (p.1 ∈ p.2))).length ≤ lim := by simp only [List.length_map, List.length_zip, lim]; omega
  have lc : ev (sem P k) (.lc [2, 3] (.many [2, 3]) (.zip (.var 1) (.var 0)) .nil (.cmp .in_ (.var 2) (.var 3))) [some (cD cs), some (.str t), none, none] h = .ok (.new (.lst ((t.zip cs).map fun p => D.bl (decide (p.1 ∈ p.2))))) h := by
    rw [ev_lc, e_zip rfl rfl]
    simp only [r_bind]
    rw [isT_gen h _ (fun c s => ?_) cs t]
    · simp only [r_bind, decide_eq_true rl, r_when]
    · have bt : bindTg (wipeE [some (cD cs), some (.str t), none, none] [2, 3]) (.many [2, 3]) (.tup [.str [c], .str s]) = some [some (cD cs), some (.str t), some (.str [c]), some (.str s)] := rfl
      simp only [lcF, bt, tsts, r_bind, ev, List.getElem?_cons_succ, List.getElem?_cons_zero, cmpV, inV, r_bool, boxOne]
  have eb : Lib.counters.b_is_text = .cons (.ife (.or (.not (.isi (.var 1) .str)) (.cmp .ne (.b1 .len (.var 1)) (.b1 .len (.var 0)))) (.cons (.ret (.c (.bl false))) .nil) .nil) (.cons (.ret (.b1 .all (.lc [2, 3] (.many [2, 3]) (.zip (.var 1) (.var 0)) .nil (.cmp .in_ (.var 2) (.var 3))))) .nil) := rfl
  have e1 : ex (sem P k) (.ife (.or (.not (.isi (.var 1) .str)) (.cmp .ne (.b1 .len (.var 1)) (.b1 .len (.var 0)))) (.cons (.ret (.c (.bl false))) .nil) .nil) [some (cD cs), some (.str t), none, none] h = .nx [some (cD cs), some (.str t), none, none] h := by
    simp [ex, tst, ev, tyIs, l1, l2, tl, exs]
  have al : b1V h .all (.new (.lst ((t.zip cs).map fun p => D.bl (decide (p.1 ∈ p.2))))) = .ok (.val (.bl ((t.zip cs).all fun p => decide (p.1 ∈ p.2)))) h := by
    simp only [b1V, lstOf, objOf, lstIn, Option.bind_some, bools_map, Option.map_some, r_opt, List.all_map]
    rfl
  rw [eb]
  generalize E.lc [2, 3] (.many [2, 3]) (.zip (.var 1) (.var 0)) .nil (.cmp .in_ (.var 2) (.var 3)) = q at lc ⊢
  simp only [exs, e1]
  simp only [ex, ev, lc, r_bind, al, r_st]
/-- no text -/
structure NoTx (P : Nat → Option Fn) (cs : List (List Nat)) (h : Hp) (d : D) : Prop where
  at_ : ∀ k, sem P (k + 1) Lib.counters.f_is_text [cD cs, d] h = .ok (.val (.bl false)) h
  em : d.free = true → ∀ k, sem P (k + 1) Lib.counters.f_is_text [cD cs, d] [] = .ok (.val (.bl false)) []
theorem NoTx.call {cs : List (List Nat)} {d : D} {h : Hp} (n : NoTx P cs h d) (k : Nat) : callV (sem P (k + 1)) Lib.counters.f_is_text [.val (cD cs), .val d] h = .ok (.val (.bl false)) h :=
  call_ok (ds := [cD cs, d]) (fun f => n.em (by simp [D.frees] at f; exact f) k) (fun _ => n.at_ k) rfl
theorem NoTx.nil {cs : List (List Nat)} {d : D} {h : Hp} (n : NoTx P cs h d) (f : d.free = true) : NoTx P cs [] d := ⟨n.em f, n.em⟩
theorem NoTx.kind (hP : P Lib.counters.f_is_text = some Lib.counters.fn_is_text) (cs : List (List Nat)) {d : D} {h : Hp} (n : NotS h d) : NoTx P cs h d := ⟨fun k => s_text_no1 hP k _ n, fun f k => s_text_no1 hP k _ (n.nil f)⟩
theorem NoTx.len (hP : P Lib.counters.f_is_text = some Lib.counters.fn_is_text) {cs : List (List Nat)} (c : Ctr cs) {t : List Nat} (tl : t.length ≤ 1000) (n : t.length ≠ cs.length) (h : Hp) : NoTx P cs h (.str t) := ⟨fun k => s_text_no2 hP k c tl n h, fun f k => s_text_no2 hP k c tl n []⟩
theorem NoTx.sign (hP : P Lib.counters.f_is_text = some Lib.counters.fn_is_text) {cs : List (List Nat)} (c : Ctr cs) {t : List Nat} (tl : t.length = cs.length) (n : ((t.zip cs).all fun p => decide (p.1 ∈ p.2)) = false) (h : Hp) : NoTx P cs h (.str t) := ⟨fun k => by rw [s_text_gen hP k c tl, n], fun f k => by rw [s_text_gen hP k c tl, n]⟩
end
end G
namespace G
@[simp] theorem r_bindx {α γ : Type} {h : Hp} (c : Nat) (es : List D) (f : α → Hp → R γ) : (R.exc c es h : R α).bind f = .exc c es h := rfl
@[simp] theorem r_stx {α : Type} {h : Hp} {ρ : Env} (c : Nat) (es : List D) (f : α → Hp → SR) : (R.exc c es h : R α).st true ρ f = .exc c es ρ h := rfl
end G
namespace G
theorem cut_to {α : Type} (xs : List α) {p : Nat} (hp : p ≤ xs.length) : cut xs none (some (p : Int)) = xs.take p := by
  have : ¬ ((p : Int) < 0) := by omega
  simp only [cut, sIx, this, if_false, List.drop_zero, Int.toNat_natCast, Nat.min_eq_left hp, Nat.sub_zero]
theorem cut_from {α : Type} (xs : List α) {p : Nat} (hp : p ≤ xs.length) : cut xs (some (p : Int)) none = xs.drop p := by
  have : ¬ ((p : Int) < 0) := by omega
  simp only [cut, sIx, this, if_false, Int.toNat_natCast, Nat.min_eq_left hp]
  rw [List.take_of_length_le (by simp)]
end G
namespace G
theorem if_ne_skip {C : Nat → List D → Hp → R Rv} {a b : E} {ρ : Env} {h h1 h2 : Hp} {x y : Rv} {s : Ss} (ea : ev C a ρ h = .ok x h1) (eb : ev C b ρ h1 = .ok y h2) (q : eqV h2 x y = some true) : ex C (.ife (.cmp .ne a b) s .nil) ρ h = .nx ρ h2 := by
  simp only [ex, tst, ev, ea, eb, r_bind, cmp_ne, q, Option.map_some, Bool.not_true, r_bool, tru_b, r_opt, r_st, exs]
end G

/-! LY: runs that are drawn; runs that are none. -/
namespace G
open PC
/-! ### comprehensions of calls -/
theorem lc_const {C : Nat → List D → Hp → R Rv} {ρ : Env} {h : Hp} {j : Nat} {n : Nat} {e : E} {v : D} (hn : n ≤ 1000) (H : ∀ w : Nat, w < n → ev C e (ρ.set j (some (.int w))) h = .ok (.val v) h) : ev C (.lc [j] (.one j) (.r1 (.c (.int n))) .nil e) ρ h = .ok (.new (.lst (List.replicate n v))) h := by
  have ei : evi C (.r1 (.c (.int n))) ρ h = .ok (rangeL 0 1 n, []) h := by
    have := r1_ok (C := C) (a := .c (.int n)) (ρ := ρ) (h := h) (h1 := h) (j := n) (by simp only [ev]) (small_of (by omega) (by omega))
    simpa using this
  rw [ev_lc, ei]
  simp only [r_bind, rngL]
  rw [compL_map (F := fun _ => v) rfl _ fun x hx => ?_]
  · have l1 : (List.map (fun _ => v) (List.map (fun k : Nat => D.int (0 + (k : Int))) (List.range n))) = List.replicate n v := by
      rw [List.map_map]
      apply List.ext_getElem <;> simp
    have l2 : (List.replicate n v).length ≤ lim := by simp only [List.length_replicate, lim]; omega
    simp only [r_bind, l1, decide_eq_true l2, r_when]
  · obtain ⟨w, hw, rfl⟩ := List.mem_map.mp hx
    have hw' : w < n := by simpa using hw
    have bt : bindTg (wipeE ρ [j]) (.one j) (.int (0 + (w : Int))) = some (ρ.set j (some (.int w))) := by simp [bindTg, wipeE]
    simp only [lcF, bt, tsts, r_bind, H w hw', boxOne]
theorem mul_rep {C : Nat → List D → Hp → R Rv} {ρ : Env} {h : Hp} {n : Nat} {e : E} {v : D} (hn : n ≤ 1000) (he : ev C e ρ h = .ok (.val v) h) : ev C (.bin .mul (.lst (.cons e .nil)) (.c (.int n))) ρ h = .ok (.new (.lst (List.replicate n v))) h := by
  have q : (decide (([v] : List D).length * ((n : Nat) : Int).toNat ≤ lim) && decide (-(2 ^ 63) ≤ ((n : Nat) : Int)) && decide (((n : Nat) : Int) < 2 ^ 63)) = true := by
    simp only [Int.toNat_natCast, Bool.and_eq_true, decide_eq_true_eq, List.length_singleton, Nat.one_mul, lim]
    omega
  have rp : ∀ n : Nat, (List.replicate n [v]).flatten = List.replicate n v := fun n => by
    induction n with
    | zero => rfl
    | succ n ih => rw [List.replicate_succ, List.flatten_cons, ih]; rfl
  simp only [ev, evs, he, r_bind, boxAll, boxOne, List.length_cons, List.length_nil, Nat.zero_add, lim_1, decide_true, r_when, binV, mulV, objOf]
  have q' : (decide ((0 + 1) * ((n : Nat) : Int).toNat ≤ lim) && decide (-(2 ^ 63) ≤ ((n : Nat) : Int)) && decide (((n : Nat) : Int) < 2 ^ 63)) = true := q
  first
    | (simp only [q, r_when]; rw [Int.toNat_natCast, rp])
    | (simp only [q', r_when]; rw [Int.toNat_natCast, rp])
    | (simp only [Nat.zero_add] at q'; simp only [q', r_when]; rw [Int.toNat_natCast, rp])
theorem if_lc {C : Nat → List D → Hp → R Rv} {ρ : Env} {h : Hp} {j : Nat} {n : Nat} {e e2 : E} {v : D} {s : Ss} (hn : n ≤ 1000) (H : ∀ w : Nat, w < n → ev C e (ρ.set j (some (.int w))) h = .ok (.val v) h) (he : ev C e2 ρ h = .ok (.val v) h) (dv : ∀ h, dok h 59 v = true) :
    ex C (.ife (.cmp .ne (.lc [j] (.one j) (.r1 (.c (.int n))) .nil e) (.bin .mul (.lst (.cons e2 .nil)) (.c (.int n)))) s .nil) ρ h = .nx ρ h :=
  if_ne_skip (lc_const hn H) (mul_rep hn he) (eqV_nn fun x hx h' => by rw [(List.mem_replicate.mp hx).2]; exact dv h')
/-! ### the run that laws draw -/
def lrunB (fct fsz fnx : Nat) : Ss := (.cons (.asg 2 (.call fct (.cons (.var 0) (.cons (.var 1) .nil)))) (.cons (.asg 3 (.call fsz (.cons (.var 2) .nil))) (.cons (.asg 4 (.idx (.lst (.cons (.call fnx (.cons (.var 0) (.cons (.var 3) .nil))) (.cons (.bin .sub (.c (.int 0)) (.call fnx (.cons (.var 0) (.cons (.var 3) .nil)))) (.cons (.bin .sub (.call fnx (.cons (.var 0) (.cons (.bin .pow (.c (.int 10)) (.c (.int 6))) .nil))) (.c (.int 500000))) .nil)))) (.call fnx (.cons (.var 0) (.cons (.c (.int 3)) .nil))))) (.cons (.ret (.tup (.cons (.var 2) (.cons (.call fnx (.cons (.var 0) (.cons (.var 3) .nil))) (.cons (.var 4) (.cons (.bin .add (.c (.int 1)) (.call fnx (.cons (.var 0) (.cons (.bin .add (.bin .mul (.c (.int 2)) (.var 3)) (.c (.int 3))) .nil)))) (.cons (.bin .add (.c (.int 1)) (.call fnx (.cons (.var 0) (.cons (.c (.int 3)) .nil)))) .nil))))))) .nil))))
theorem idx3' (h : Hp) {a b c i : Int} (h0 : 0 ≤ i) (h1 : i < 3) : ∃ v, idxV h (.new (.lst [.int a, .int b, .int c])) (.val (.int i)) = .ok (.val (.int v)) h ∧ (v = a ∨ v = b ∨ v = c) := by
  have : i = 0 ∨ i = 1 ∨ i = 2 := by omega
  rcases this with rfl | rfl | rfl
  · exact ⟨a, rfl, .inl rfl⟩
  · exact ⟨b, rfl, .inr (.inl rfl)⟩
  · exact ⟨c, rfl, .inr (.inr rfl)⟩
/-- a run of laws -/
structure SmR (r : Rn) (most : Int) : Prop where
  ok : RnOk r
  low : Low r.cs
  sz : csz r.cs ≤ most
  many : r.many ≤ 2 * csz r.cs + 3
  cop : r.cop ≤ 3
  sd : ∀ s ∈ r.cs, s ∈ sd
  st0 : -500000 ≤ r.st
  st1 : r.st ≤ 500000
section
variable {P : Nat → Option Fn} {fnx fct fsz fr : Nat}
theorem c_lsz (hS : P fsz = some ⟨1, 3, szB⟩) (k : Nat) {cs : List (List Nat)} (c : Ctr cs) (h : Hp) : callV (sem P (k + 1)) fsz [.val (cD cs)] h = .ok (.val (.int (csz cs))) h :=
  call_val (by simp [Rv.free]) rfl (hc := []) (by rw [sem_succ hS]; exact s_size2 c []) rfl
theorem c_ltx {ft : Nat} (hT : P ft = some Lib.counters.fn_text_in) (k : Nat) {cs : List (List Nat)} (c : Ctr cs) (n : Int) (h : Hp) : callV (sem P (k + 1)) ft [.val (cD cs), .val (.int n)] h = .ok (.val (.str (PC.tx cs n))) h :=
  call_val (by simp [Rv.free, D.free]) rfl (hc := []) (by rw [sem_succ hT]; exact s_text c n []) rfl
theorem c_lrun (hN : P fnx = some ⟨2, 6, nextB⟩) (hC : P fct = some ⟨2, 6, ctB fnx⟩) (hS : P fsz = some ⟨1, 3, szB⟩) (hR : P fr = some ⟨2, 5, lrunB fct fsz fnx⟩) (k : Nat) {most : Int} (m2 : 2 ≤ most) (mb : most ≤ 1000) {h : Hp} {p : Nat} {K : Int} (d : Dr h 2 0 p K) (hK : K < 2 ^ 50) : ∃ (r : Rn) (h' : Hp) (p' : Nat), callV (sem P (k + 3)) fr [.val (.ref 2), .val (.int most)] h = .ok (.val (rD r)) h' ∧ SmR r most ∧ Dr h' 2 0 p' (K + 11) := by
  obtain ⟨cs, h0, p0, e0, c, low, sz, al, d0⟩ := c_counter2 hN hC k (most := most) m2 mb d (by omega)
  have cp := c.pos
  obtain ⟨x1, h1, p1, e1, a1, b1, d1, _⟩ := draw hN (k + 1) (total := csz cs) d0 (by omega) (by omega) (by omega)
  obtain ⟨x2, h2, p2, e2, a2, b2, d2, _⟩ := draw hN (k + 1) (total := csz cs) d1 (by omega) (by omega) (by omega)
  obtain ⟨x3, h3, p3, e3, a3, b3, d3, _⟩ := draw hN (k + 1) (total := 1000000) d2 (by omega) (by omega) (by omega)
  obtain ⟨x4, h4, p4, e4, a4, b4, d4, _⟩ := draw hN (k + 1) (total := 3) d3 (by omega) (by omega) (by omega)
  obtain ⟨st, es, hs⟩ := idx3' h4 (a := x1) (b := 0 - x2) (c := x3 - 500000) a4 b4
  obtain ⟨x5, h5, p5, e5, a5, b5, d5, _⟩ := draw hN (k + 1) (total := csz cs) d4 (by omega) (by omega) (by omega)
  obtain ⟨x6, h6, p6, e6, a6, b6, d6, _⟩ := draw hN (k + 1) (total := 2 * csz cs + 3) d5 (by omega) (by omega) (by omega)
  obtain ⟨x7, h7, p7, e7, a7, b7, d7, _⟩ := draw hN (k + 1) (total := 3) d6 (by omega) (by omega) (by omega)
  have s1 : -500000 ≤ st ∧ st ≤ 500000 := by omega
  refine ⟨⟨cs, x5, st, 1 + x6, 1 + x7⟩, h7, p7, ?_, ⟨⟨c, a5, b5, by show -1000000000000000000 ≤ st; omega, by show st ≤ 1000000000000000000; omega, by show 1 ≤ 1 + x6; omega, by show 1 + x6 ≤ 1000000000000000000000000000000; omega, by show 1 ≤ 1 + x7; omega, by show 1 + x7 ≤ 1000; omega⟩, low, sz, by show 1 + x6 ≤ 2 * csz cs + 3; omega, by show 1 + x7 ≤ 3; omega, al, s1.1, s1.2⟩, d7.up (by omega)⟩
  have ec : callV (sem P (k + 3)) fr [.val (.ref 2), .val (.int most)] h = sem P (k + 3) fr [.ref 2, .int most] h := rfl
  rw [ec, sem_succ hR]
  refine runFn_eq (ρ := [some (.ref 2), some (.int most), none, none, none]) ?_ rfl rfl
  have p6' : powOk 10 6 = true := by decide
  have v6 : (10 : Int) ^ (Int.toNat 6) = 1000000 := by decide
  have mm : mulOk 2 (csz cs) = true := mulOk_of 10 60 (by decide) (nat_lt (by omega) (by omega)) (by omega)
  have cz := fun h => c_lsz hS (k + 1) c h
  simp only [lrunB, exs, ex, ev, evs, r_bind, r_st, boxAll, boxOne, List.length_cons, List.length_nil, Nat.zero_add, Nat.reduceAdd, lim_3, lim_5, decide_true, r_when, List.getElem?_cons_zero, List.getElem?_cons_succ, List.set_cons_zero, List.set_cons_succ, e0, cz, e1, e2, bin_sub, bin_pow, p6', v6, e3, e4, es, e5, bin_mul, mm, bin_add, e6, e7]
  rfl
end
/-! ### what is no run -/
section
variable {P : Nat → Option Fn}
/-- no whole number within bounds -/
def NW (P : Nat → Option Fn) (d : D) (lo hi : Int) : Prop := ∀ (k : Nat) (h : Hp), callV (sem P (k + 1)) Lib.counters.f_is_whole [.val d, .val (.int lo), .val (.int hi)] h = .ok (.val (.bl false)) h
theorem NW.kind (hP : P Lib.counters.f_is_whole = some Lib.counters.fn_is_whole) {d : D} (lo hi : Int) (n : ∀ h, NotI h d) : NW P d lo hi := fun k h => c_whole_no hP k _ _ (n h)
theorem NW.out (hP : P Lib.counters.f_is_whole = some Lib.counters.fn_is_whole) {i lo hi : Int} (n : i < lo ∨ hi < i) : NW P (.int i) lo hi := fun k h => by
  rw [c_is_whole2 hP k]
  have : (decide (lo ≤ i) && decide (i ≤ hi)) = false := by
    rcases n with n | n
    · rw [decide_eq_false (by omega)]; rfl
    · rw [decide_eq_false (show ¬ i ≤ hi by omega)]; simp
  rw [this]
def fF : D := .str [102, 111, 114, 109]
/-- no run: the part that is told -/
structure NoR (P : Nat → Option Fn) (h : Hp) (d v : D) : Prop where
  at_ : ∀ k, sem P (k + 3) Lib.runs.f_need_run [d] h = .exc 5 [v] h
  em : d.free = true → ∀ k, sem P (k + 3) Lib.runs.f_need_run [d] [] = .exc 5 [v] []
  fv : v.free = true
theorem NoR.nil {d v : D} {h : Hp} (n : NoR P h d v) (f : d.free = true) : NoR P [] d v := ⟨n.em f, n.em, n.fv⟩
theorem NoR.call {d v : D} {h : Hp} (n : NoR P h d v) (k : Nat) : callV (sem P (k + 3)) Lib.runs.f_need_run [.val d] h = .exc 5 [v] h :=
  call_ex (ds := [d]) (fun f => n.em (by simpa [D.frees] using f) k) (fun _ => n.at_ k) (by simp [D.frees, n.fv])
theorem NoR.kind (need : P Lib.runs.f_need_run = some Lib.runs.fn_need_run) {d : D} {h : Hp} (n : NotT h d) : NoR P h d fF := by
  have go : ∀ {h : Hp}, NotT h d → ∀ k, sem P (k + 3) Lib.runs.f_need_run [d] h = .exc 5 [fF] h := fun {h} n k => by
    rw [sem_succ need]
    refine runFn_exc (ρ := [some d]) (ρ' := [some d]) ?_ rfl rfl
    simp [Lib.runs.b_need_run, exs, ex, tst, ev, evs, ty_T n, boxAll, boxOne, fF]
  exact ⟨go n, fun f => go (n.nil f), rfl⟩
theorem NoR.len (need : P Lib.runs.f_need_run = some Lib.runs.fn_need_run) {xs : List D} (l : xs.length ≤ 1000) (n : xs.length ≠ 5) (h : Hp) : NoR P h (.tup xs) fF := by
  have go : ∀ (h : Hp) k, sem P (k + 3) Lib.runs.f_need_run [.tup xs] h = .exc 5 [fF] h := fun h k => by
    rw [sem_succ need]
    refine runFn_exc (ρ := [some (.tup xs)]) (ρ' := [some (.tup xs)]) ?_ rfl rfl
    have ln : ∀ h, b1V h .len (.val (.tup xs)) = .ok (.val (.int (xs.length : Nat))) h := fun h => by
      have : xs.length ≤ lim := by simp only [lim]; omega
      simp [b1V, lenOf, this]
    have n' : ¬ ((xs.length : Int) = 5) := by omega
    simp [Lib.runs.b_need_run, exs, ex, tst, ev, evs, tyIs, ln, n', boxAll, boxOne, fF]
  exact ⟨go h, fun _ => go [], rfl⟩
def fC : D := .str [99, 111, 117, 110, 116, 101, 114]
def fB : D := .str [98, 101, 103, 105, 110]
def fS : D := .str [115, 116, 101, 112]
def fM : D := .str [109, 97, 110, 121]
def fP : D := .str [99, 111, 112, 105, 101, 115]
section
variable (S : PRun2 P) {x0 x1 x2 x3 x4 : D}
include S
theorem NoR.c (n : ∀ (k : Nat) (h : Hp), callV (sem P (k + 2)) Lib.counters.f_is_counter [.val x0] h = .ok (.val (.bl false)) h) (h : Hp) : NoR P h (.tup [x0, x1, x2, x3, x4]) fC := by
  have go : ∀ (h : Hp) k, sem P (k + 3) Lib.runs.f_need_run [.tup [x0, x1, x2, x3, x4]] h = .exc 5 [fC] h := fun h k => by
    rw [sem_succ S.need]
    refine runFn_exc (ρ := [some (.tup [x0, x1, x2, x3, x4])]) (ρ' := [some (.tup [x0, x1, x2, x3, x4])]) ?_ rfl rfl
    simp [Lib.runs.b_need_run, exs, ex, tst, ev, evs, tyIs, e_len, lenOf, idxV, atI, ixN, n, boxAll, boxOne, fC]
  exact ⟨go h, fun _ => go [], rfl⟩
theorem NoR.b {cs : List (List Nat)} (c : Ctr cs) (n : NW P x1 0 (csz cs - 1)) (h : Hp) : NoR P h (.tup [cD cs, x1, x2, x3, x4]) fB := by
  have go : ∀ (h : Hp) k, sem P (k + 3) Lib.runs.f_need_run [.tup [cD cs, x1, x2, x3, x4]] h = .exc 5 [fB] h := fun h k => by
    rw [sem_succ S.need]
    refine runFn_exc (ρ := [some (.tup [cD cs, x1, x2, x3, x4])]) (ρ' := [some (.tup [cD cs, x1, x2, x3, x4])]) ?_ rfl rfl
    have ci := fun h => c_is_counter S.toPRun k c h
    have cz := fun h => c_size S.toPRun (k + 1) c h
    have n1 := n (k + 1)
    simp [Lib.runs.b_need_run, exs, ex, tst, ev, evs, tyIs, e_len, lenOf, idxV, atI, ixN, ci, cz, n1, boxAll, boxOne, fB]
  exact ⟨go h, fun _ => go [], rfl⟩
theorem NoR.s {cs : List (List Nat)} (c : Ctr cs) {b : Int} (b0 : 0 ≤ b) (b1 : b < csz cs) (n : NW P x2 (-1000000000000000000) 1000000000000000000) (h : Hp) : NoR P h (.tup [cD cs, .int b, x2, x3, x4]) fS := by
  have go : ∀ (h : Hp) k, sem P (k + 3) Lib.runs.f_need_run [.tup [cD cs, .int b, x2, x3, x4]] h = .exc 5 [fS] h := fun h k => by
    rw [sem_succ S.need]
    refine runFn_exc (ρ := [some (.tup [cD cs, .int b, x2, x3, x4])]) (ρ' := [some (.tup [cD cs, .int b, x2, x3, x4])]) ?_ rfl rfl
    have ci := fun h => c_is_counter S.toPRun k c h
    have cz := fun h => c_size S.toPRun (k + 1) c h
    have n1 := n (k + 1)
    have w2 := fun x l m h => c_is_whole2 (P := P) S.whole (k + 1) x l m h
    have e1 : b ≤ csz cs - 1 := by omega
    simp [Lib.runs.b_need_run, exs, ex, tst, ev, evs, tyIs, e_len, lenOf, idxV, atI, ixN, ci, cz, w2, b0, e1, n1, boxAll, boxOne, fS, Lib.runs.k_MOST_STEP]
  exact ⟨go h, fun _ => go [], rfl⟩
theorem NoR.m {cs : List (List Nat)} (c : Ctr cs) {b st : Int} (b0 : 0 ≤ b) (b1 : b < csz cs) (s0 : -1000000000000000000 ≤ st) (s1 : st ≤ 1000000000000000000) (n : NW P x3 1 1000000000000000000000000000000) (h : Hp) : NoR P h (.tup [cD cs, .int b, .int st, x3, x4]) fM := by
  have go : ∀ (h : Hp) k, sem P (k + 3) Lib.runs.f_need_run [.tup [cD cs, .int b, .int st, x3, x4]] h = .exc 5 [fM] h := fun h k => by
    rw [sem_succ S.need]
    refine runFn_exc (ρ := [some (.tup [cD cs, .int b, .int st, x3, x4])]) (ρ' := [some (.tup [cD cs, .int b, .int st, x3, x4])]) ?_ rfl rfl
    have ci := fun h => c_is_counter S.toPRun k c h
    have cz := fun h => c_size S.toPRun (k + 1) c h
    have n1 := n (k + 1)
    have w2 := fun x l m h => c_is_whole2 (P := P) S.whole (k + 1) x l m h
    have e1 : b ≤ csz cs - 1 := by omega
    simp [Lib.runs.b_need_run, exs, ex, tst, ev, evs, tyIs, e_len, lenOf, idxV, atI, ixN, ci, cz, w2, b0, e1, s0, s1, n1, boxAll, boxOne, fM, Lib.runs.k_MOST_STEP, Lib.runs.k_MOST_SERIALS]
  exact ⟨go h, fun _ => go [], rfl⟩
theorem NoR.p {cs : List (List Nat)} (c : Ctr cs) {b st many : Int} (b0 : 0 ≤ b) (b1 : b < csz cs) (s0 : -1000000000000000000 ≤ st) (s1 : st ≤ 1000000000000000000) (m0 : 1 ≤ many) (m1 : many ≤ 1000000000000000000000000000000) (n : NW P x4 1 1000) (h : Hp) : NoR P h (.tup [cD cs, .int b, .int st, .int many, x4]) fP := by
  have go : ∀ (h : Hp) k, sem P (k + 3) Lib.runs.f_need_run [.tup [cD cs, .int b, .int st, .int many, x4]] h = .exc 5 [fP] h := fun h k => by
    rw [sem_succ S.need]
    refine runFn_exc (ρ := [some (.tup [cD cs, .int b, .int st, .int many, x4])]) (ρ' := [some (.tup [cD cs, .int b, .int st, .int many, x4])]) ?_ rfl rfl
    have ci := fun h => c_is_counter S.toPRun k c h
    have cz := fun h => c_size S.toPRun (k + 1) c h
    have n1 := n (k + 1)
    have w2 := fun x l m h => c_is_whole2 (P := P) S.whole (k + 1) x l m h
    have e1 : b ≤ csz cs - 1 := by omega
    simp [Lib.runs.b_need_run, exs, ex, tst, ev, evs, tyIs, e_len, lenOf, idxV, atI, ixN, ci, cz, w2, b0, e1, s0, s1, m0, m1, n1, boxAll, boxOne, fP, Lib.runs.k_MOST_STEP, Lib.runs.k_MOST_SERIALS, Lib.runs.k_MOST_COPIES]
  exact ⟨go h, fun _ => go [], rfl⟩
end
end
end G
namespace G
section
variable {C : Nat → List D → Hp → R Rv} {ρ : Env} {h : Hp} {c : Nat} {es : List D} {d : D}
theorem asgT_bad {is : List Nat} {g : Nat} (h0 : ρ[0]? = some (some d)) (n : callV C g [.val d] h = .exc c es h) : ex C (.asgT is (.call g (.cons (.var 0) .nil))) ρ h = .exc c es ρ h := by
  simp only [ex, ev, evs, h0, r_bind, n, xa, xas, Bool.and_self, r_stx]
theorem ex_bad {g : Nat} (h0 : ρ[0]? = some (some d)) (n : callV C g [.val d] h = .exc c es h) : ex C (.ex (.call g (.cons (.var 0) .nil))) ρ h = .exc c es ρ h := by
  simp only [ex, ev, evs, h0, r_bind, n, xa, xas, Bool.and_self, r_stx]
theorem exs_bad {s : S} {ss : Ss} {ρ' : Env} {h1 : Hp} (e : ex C s ρ h = .exc c es ρ' h1) : exs C (.cons s ss) ρ h = .exc c es ρ' h1 := by simp only [exs, e]
end
/-- a def that wants a run first -/
theorem need_first {P : Nat → Option Fn} {f np ns : Nat} {s : S} {rest : Ss} {is : List Nat} (hs : s = .asgT is (.call Lib.runs.f_need_run (.cons (.var 0) .nil)) ∨ s = .ex (.call Lib.runs.f_need_run (.cons (.var 0) .nil))) (hP : P f = some ⟨np, ns, .cons s rest⟩) (k : Nat) {d v : D} {ds : List D} {h : Hp} (hl : ds.length + 1 = np) (n : NoR P h d v) : callV (sem P (k + 4)) f ((d :: ds).map .val) h = .exc 5 [v] h := by
  have go : ∀ {h : Hp}, NoR P h d v → sem P (k + 4) f (d :: ds) h = .exc 5 [v] h := fun {h} n => by
    rw [sem_succ hP]
    refine runFn_exc (ρ := (d :: ds).map some ++ List.replicate (ns - np) none) (ρ' := (d :: ds).map some ++ List.replicate (ns - np) none) (exs_bad ?_) (by simpa using hl) rfl
    rcases hs with rfl | rfl
    · exact asgT_bad rfl (n.call k)
    · exact ex_bad rfl (n.call k)
  exact call_ex (ds := d :: ds) (fun f => go (n.nil (by simp [D.frees] at f; exact f.1))) (fun _ => go n) (by simp [D.frees, n.fv])
def fT : D := .str [110, 111, 32, 116, 101, 120, 116]
theorem need_text_bad {P : Nat → Option Fn} (hP : P Lib.runs.f_need_text = some Lib.runs.fn_need_text) (k : Nat) {cs : List (List Nat)} {d : D} {h : Hp} (n : NoTx P cs h d) : callV (sem P (k + 2)) Lib.runs.f_need_text [.val (cD cs), .val d] h = .exc 12 [fT] h := by
  have go : ∀ {h : Hp}, NoTx P cs h d → sem P (k + 2) Lib.runs.f_need_text [cD cs, d] h = .exc 12 [fT] h := fun {h} n => by
    rw [sem_succ hP]
    refine runFn_exc (ρ := [some (cD cs), some d]) (ρ' := [some (cD cs), some d]) ?_ rfl rfl
    simp [Lib.runs.b_need_text, exs, ex, ev, evs, tst, n.call k, boxAll, boxOne, fT]
  exact call_ex (ds := [cD cs, d]) (fun f => go (n.nil (by simp [D.frees] at f; exact f))) (fun _ => go n) rfl
end G

/-! PM: where two hands of a panel meet. -/
namespace PM
open PL
theorem sh_iff {e T s n : Int} (e0 : 1 ≤ e) (s0 : 0 ≤ s) (s1 : s < T) : n / e % T = s ↔ (n - s * e) % (e * T) < e := by
  have hT : 0 < T := by omega
  have ed := Int.ediv_mul_add_emod n e
  have r0 := Int.emod_nonneg n (show e ≠ 0 by omega)
  have r1 := Int.emod_lt_of_pos n (show 0 < e by omega)
  generalize n / e = q at *
  generalize n % e = r at *
  have qd := Int.ediv_mul_add_emod (q - s) T
  have m0 := Int.emod_nonneg (q - s) (show T ≠ 0 by omega)
  have m1 := Int.emod_lt_of_pos (q - s) hT
  have key : (n - s * e) % (e * T) = e * ((q - s) % T) + r := by
    refine mod_of (c := (q - s) / T) ?_ ?_ ?_
    · have : n - s * e = (q - s) * e + r := by rw [Int.sub_mul]; omega
      rw [this]
      have z : (q - s) * e = ((q - s) / T * T + (q - s) % T) * e := by rw [qd]
      rw [z, Int.add_mul]
      have a1 : (q - s) / T * T * e = (q - s) / T * (e * T) := by rw [Int.mul_assoc, Int.mul_comm T e]
      rw [a1, Int.mul_comm ((q - s) % T) e]
      omega
    · have := Int.mul_nonneg (show (0 : Int) ≤ e by omega) m0
      omega
    · have : e * ((q - s) % T) ≤ e * (T - 1) := Int.mul_le_mul_of_nonneg_left (by omega) (by omega)
      rw [Int.mul_sub, Int.mul_one] at this
      omega
  rw [key]
  constructor
  · intro h
    have : (q - s) % T = 0 := by
      have : q - s = T * (q / T) := by have := Int.mul_ediv_add_emod q T; omega
      rw [this, Int.mul_emod_right]
    rw [this]
    omega
  · intro h
    have z : (q - s) % T = 0 := by
      by_cases c : (q - s) % T = 0
      · exact c
      · exfalso
        have : e * 1 ≤ e * ((q - s) % T) := Int.mul_le_mul_of_nonneg_left (by omega) (by omega)
        omega
    have : q = (q - s) / T * T + s := by omega
    exact mod_of this s0 s1
theorem win {a far e e' : Int} (a0 : 0 ≤ a) (a1 : a < far) (e1 : 1 ≤ e) (e1' : 1 ≤ e') : (a + e - 1) % far ≤ (if e + e' - 1 < far then e + e' - 1 else far) - 1 ↔ (a < e' ∨ far ≤ a + e - 1) := by
  by_cases h : e + e' - 1 < far
  · rw [if_pos h]
    by_cases c : a + e - 1 < far
    · rw [Int.emod_eq_of_lt (by omega) c]
      omega
    · have : (a + e - 1) % far = a + e - 1 - far := mod_of (c := 1) (by omega) (by omega) (by omega)
      rw [this]
      omega
  · rw [if_neg h]
    have := Int.emod_lt_of_pos (a + e - 1) (show 0 < far by omega)
    omega
/-- the window of a turn -/
theorem hit_iff {near far here there e e' t : Int} (f0 : 0 < far) (e1 : 1 ≤ e) (e1' : 1 ≤ e') : (near % far * t + (here - there + e - 1) % far) % far ≤ (if e + e' - 1 < far then e + e' - 1 else far) - 1 ↔ ((here + t * near - there) % far < e' ∨ far ≤ (here + t * near - there) % far + e - 1) := by
  rw [← win (Int.emod_nonneg _ (by omega)) (Int.emod_lt_of_pos _ f0) e1 e1']
  have : (near % far * t + (here - there + e - 1) % far) % far = ((here + t * near - there) % far + e - 1) % far := by
    rw [Int.add_emod, Int.emod_emod_of_dvd _ (Int.dvd_refl far), Int.mul_emod, Int.emod_emod_of_dvd _ (Int.dvd_refl far), ← Int.mul_emod, ← Int.add_emod]
    rw [show (here + t * near - there) % far + e - 1 = (here + t * near - there) % far + (e - 1) by omega, Int.add_emod ((here + t * near - there) % far), Int.emod_emod_of_dvd _ (Int.dvd_refl far), ← Int.add_emod]
    congr 1
    rw [Int.mul_comm]
    omega
  rw [this]
/-- what is told of a turn that meets -/
def told (begin_ there far e' : Int) : Int := if (begin_ - there) % far < e' then begin_ else begin_ + far - (begin_ - there) % far
theorem told_ok {b there far e e' : Int} (f0 : 0 < far) (e1 : 1 ≤ e) (e1' : 1 ≤ e') (h : (b - there) % far < e' ∨ far ≤ (b - there) % far + e - 1) : b ≤ told b there far e' ∧ told b there far e' < b + e ∧ (told b there far e' - there) % far < e' ∧ ∀ n, b ≤ n → n < told b there far e' → ¬ (n - there) % far < e' := by
  have a0 := Int.emod_nonneg (b - there) (show far ≠ 0 by omega)
  have a1 := Int.emod_lt_of_pos (b - there) f0
  have ad := Int.ediv_mul_add_emod (b - there) far
  unfold told
  by_cases c : (b - there) % far < e'
  · rw [if_pos c]
    exact ⟨Int.le_refl _, by omega, c, fun n h1 h2 => by omega⟩
  · rw [if_neg c]
    refine ⟨by omega, by omega, ?_, fun n h1 h2 => ?_⟩
    · have : b + far - (b - there) % far - there = ((b - there) / far + 1) * far := by rw [Int.add_mul]; omega
      rw [this, Int.mul_emod_left]
      omega
    · have : (n - there) % far = (b - there) % far + (n - b) := mod_of (c := (b - there) / far) (by omega) (by omega) (by omega)
      rw [this]
      omega
/-- two hands: the labels at which both show their texts -/
def both (e T s e' T' s' n : Int) : Prop := n / e % T = s ∧ n / e' % T' = s'
/-- the least t for which a rest is up to a number -/
def FH (a b m H : Int) : Option Int → Prop
  | some t => 0 ≤ t ∧ (a * t + b) % m ≤ H ∧ ∀ u, 0 ≤ u → u < t → ¬ (a * u + b) % m ≤ H
  | none => ∀ u, 0 ≤ u → ¬ (a * u + b) % m ≤ H
/-- the least label -/
def Mt (e T s e' T' s' : Int) : Option Int → Prop
  | some t => both e T s e' T' s' (told (s * e + t * (e * T)) (s' * e') (e' * T') e') ∧ 0 ≤ told (s * e + t * (e * T)) (s' * e') (e' * T') e' ∧ ∀ n, 0 ≤ n → both e T s e' T' s' n → told (s * e + t * (e * T)) (s' * e') (e' * T') e' ≤ n
  | none => ∀ n, 0 ≤ n → ¬ both e T s e' T' s' n
theorem meets {e T s e' T' s' : Int} (e1 : 1 ≤ e) (e1' : 1 ≤ e') (s0 : 0 ≤ s) (s1 : s < T) (s0' : 0 ≤ s') (s1' : s' < T') {o : Option Int} (h : FH (e * T % (e' * T')) ((s * e - s' * e' + e - 1) % (e' * T')) (e' * T') ((if e + e' - 1 < e' * T' then e + e' - 1 else e' * T') - 1) o) : Mt e T s e' T' s' o := by
  have hT : 0 < T := by omega
  have hT' : 0 < T' := by omega
  have N0 : 0 < e * T := Int.mul_pos (by omega) hT
  have F0 : 0 < e' * T' := Int.mul_pos (by omega) hT'
  have se : s * e < e * T := by rw [Int.mul_comm]; exact Int.mul_lt_mul_of_pos_left s1 (by omega)
  have se0 : 0 ≤ s * e := Int.mul_nonneg s0 (by omega)
  have hi := fun t => hit_iff (near := e * T) (here := s * e) (there := s' * e') (t := t) F0 e1 e1'
  -- which turn a label belongs to
  have turn : ∀ n, 0 ≤ n → both e T s e' T' s' n → ∃ t, 0 ≤ t ∧ s * e + t * (e * T) ≤ n ∧ n < s * e + t * (e * T) + e ∧ ((s * e + t * (e * T) - s' * e') % (e' * T') < e' ∨ e' * T' ≤ (s * e + t * (e * T) - s' * e') % (e' * T') + e - 1) := by
    intro n n0 ⟨b1, b2⟩
    rw [sh_iff e1 s0 s1] at b1
    rw [sh_iff e1' s0' s1'] at b2
    have nd := Int.ediv_mul_add_emod (n - s * e) (e * T)
    have m0 := Int.emod_nonneg (n - s * e) (show e * T ≠ 0 by omega)
    refine ⟨(n - s * e) / (e * T), ?_, by omega, by omega, ?_⟩
    · by_cases c : 0 ≤ (n - s * e) / (e * T)
      · exact c
      · exfalso
        have : (n - s * e) / (e * T) * (e * T) ≤ -1 * (e * T) := Int.mul_le_mul_of_nonneg_right (by omega) (by omega)
        have z : (s + 1) * e ≤ T * e := Int.mul_le_mul_of_nonneg_right (by omega) (by omega)
        rw [Int.add_mul, Int.mul_comm T e] at z
        omega
    · generalize (n - s * e) / (e * T) * (e * T) = tN at *
      have a0 := Int.emod_nonneg (s * e + tN - s' * e') (show e' * T' ≠ 0 by omega)
      have a1 := Int.emod_lt_of_pos (s * e + tN - s' * e') F0
      have ad := Int.ediv_mul_add_emod (s * e + tN - s' * e') (e' * T')
      by_cases c : (s * e + tN - s' * e') % (e' * T') < e'
      · exact .inl c
      · right
        by_cases c2 : e' * T' ≤ (s * e + tN - s' * e') % (e' * T') + e - 1
        · exact c2
        · exfalso
          have : (n - s' * e') % (e' * T') = (s * e + tN - s' * e') % (e' * T') + (n - (s * e + tN)) := mod_of (c := (s * e + tN - s' * e') / (e' * T')) (by omega) (by omega) (by omega)
          omega
  cases o with
  | none =>
    intro n n0 hb
    obtain ⟨t, t0, _, _, w⟩ := turn n n0 hb
    exact h t t0 ((hi t).mpr w)
  | some t =>
    obtain ⟨t0, ht, lt⟩ := h
    have w := (hi t).mp ht
    obtain ⟨k1, k2, k3, k4⟩ := told_ok F0 e1 e1' w
    have tN0 : 0 ≤ t * (e * T) := Int.mul_nonneg t0 (by omega)
    refine ⟨⟨?_, ?_⟩, by omega, fun n n0 hb => ?_⟩
    · rw [sh_iff e1 s0 s1]
      have : (told (s * e + t * (e * T)) (s' * e') (e' * T') e' - s * e) % (e * T) = told (s * e + t * (e * T)) (s' * e') (e' * T') e' - s * e - t * (e * T) := mod_of (c := t) (by omega) (by omega) (by
        have : e * 1 ≤ e * T := Int.mul_le_mul_of_nonneg_left (by omega) (by omega)
        omega)
      rw [this]
      omega
    · rw [sh_iff e1' s0' s1']
      exact k3
    · obtain ⟨u, u0, a, b, w'⟩ := turn n n0 hb
      rcases Int.lt_trichotomy u t with c | c | c
      · exact absurd ((hi u).mpr w') (lt u u0 c)
      · subst c
        by_cases z : told (s * e + u * (e * T)) (s' * e') (e' * T') e' ≤ n
        · exact z
        · exfalso
          have := hb.2
          rw [sh_iff e1' s0' s1'] at this
          exact k4 n a (by omega) this
      · have : (t + 1) * (e * T) ≤ u * (e * T) := Int.mul_le_mul_of_nonneg_right (by omega) (by omega)
        rw [Int.add_mul] at this
        have e1T : e * 1 ≤ e * T := Int.mul_le_mul_of_nonneg_left (by omega) (by omega)
        omega
/-- first_hit by a question -/
theorem first_hit {a b m H : Int} (a0 : 0 ≤ a) (a1 : a < m) (H0 : 0 ≤ H) (b1 : H < b) (b2 : b < m) {o : Option Int} (h : IsAns ⟨a, m, m - b, m - b + H⟩ o) : FH a b m H o := by
  have key : ∀ t, (a * t + b) % m ≤ H ↔ hit ⟨a, m, m - b, m - b + H⟩ t := fun t => by
    have r0 := Int.emod_nonneg (a * t) (show m ≠ 0 by omega)
    have r1 := Int.emod_lt_of_pos (a * t) (show 0 < m by omega)
    have rd := Int.ediv_mul_add_emod (a * t) m
    simp only [hit]
    by_cases c : a * t % m + b < m
    · have : (a * t + b) % m = a * t % m + b := mod_of (c := a * t / m) (by omega) (by omega) c
      rw [this]
      omega
    · have : (a * t + b) % m = a * t % m + b - m := mod_of (c := a * t / m + 1) (by rw [Int.add_mul]; omega) (by omega) (by omega)
      rw [this]
      omega
  cases o with
  | some t =>
    obtain ⟨t0, ht, lt⟩ := h
    exact ⟨t0, (key t).mpr ht, fun u u0 u1 z => lt u u0 u1 ((key u).mp z)⟩
  | none => exact fun u u0 z => h u u0 ((key u).mp z)
end PM

/-! LM: panels. -/
namespace G
open PC
/-- a hand of a panel -/
structure Hn where
  cs : List (List Nat)
  b : Int
  st : Int
  ev : Int
structure HnOk (r : Hn) : Prop where
  c : Ctr r.cs
  b0 : 0 ≤ r.b
  b1 : r.b < csz r.cs
  s0 : -1000000000000000000 ≤ r.st
  s1 : r.st ≤ 1000000000000000000
  e0 : 1 ≤ r.ev
  e1 : r.ev ≤ 1000000
def hD (r : Hn) : D := .tup [cD r.cs, .int r.b, .int r.st, .int r.ev]
@[simp] theorem hD_free (r : Hn) : (hD r).free = true := by simp [hD, D.free, D.frees]
/-- the number that a hand shows at a label -/
def hsh (r : Hn) (n : Int) : Int := (r.b + n / r.ev * r.st) % csz r.cs
/-- how many serials a round has -/
def hT (r : Hn) : Int := rnd (csz r.cs) r.st
theorem HnOk.stb {r : Hn} (o : HnOk r) : r.st.natAbs < 2 ^ 200 := by
  have e2 := o.s0
  have e3 := o.s1
  omega
theorem HnOk.wp {r : Hn} (o : HnOk r) : 0 < csz r.cs := by have := o.c.pos; omega
theorem HnOk.wb {r : Hn} (o : HnOk r) : csz r.cs < 2 ^ 100 := by have := o.c.lt; omega
theorem HnOk.t {r : Hn} (o : HnOk r) : 1 ≤ hT r ∧ hT r ≤ csz r.cs := rnd_le o.wp
theorem HnOk.nb {r : Hn} (o : HnOk r) : 1 ≤ r.ev * hT r ∧ r.ev * hT r < 2 ^ 120 := by
  have t := o.t
  have w := o.wb
  have e0 := o.e0
  have e1 := o.e1
  have a : 1 * 1 ≤ r.ev * hT r := Int.mul_le_mul e0 t.1 (by omega) (by omega)
  have b : r.ev * hT r ≤ 1000000 * 2 ^ 100 := Int.mul_le_mul e1 (by omega) (by omega) (by omega)
  omega
theorem HnOk.sb {r : Hn} (o : HnOk r) (n : Int) : 0 ≤ hsh r n ∧ hsh r n < csz r.cs := ⟨Int.emod_nonneg _ (by have := o.wp; omega), Int.emod_lt_of_pos _ o.wp⟩
/-- the defs of panels stand -/
structure PPan (P : Nat → Option Fn) : Prop extends PRun P, PLad0 P where
  hand : P Lib.panels.f_is_hand = some Lib.panels.fn_is_hand
  needp : P Lib.panels.f_need_panel = some Lib.panels.fn_need_panel
  htext : P Lib.panels.f_hand_text = some Lib.panels.fn_hand_text
  shwn : P Lib.panels.f_shown = some Lib.panels.fn_shown
  turn : P Lib.panels.f_turn_of = some Lib.panels.fn_turn_of
  back : P Lib.panels.f_comes_back = some Lib.panels.fn_comes_back
  fwith : P Lib.panels.f_first_with = some Lib.panels.fn_first_with
  fhit : P Lib.ladders.f_first_hit = some Lib.ladders.fn_first_hit
  meet : P Lib.panels.f_meet = some Lib.panels.fn_meet
section
variable {P : Nat → Option Fn} (S : PPan P)
include S
omit S in
theorem ih0 (r : Hn) (h : Hp) : idxV h (.val (hD r)) (.val (.int 0)) = .ok (.val (cD r.cs)) h := rfl
omit S in
theorem ih1 (r : Hn) (h : Hp) : idxV h (.val (hD r)) (.val (.int 1)) = .ok (.val (.int r.b)) h := rfl
omit S in
theorem ih2 (r : Hn) (h : Hp) : idxV h (.val (hD r)) (.val (.int 2)) = .ok (.val (.int r.st)) h := rfl
omit S in
theorem ih3 (r : Hn) (h : Hp) : idxV h (.val (hD r)) (.val (.int 3)) = .ok (.val (.int r.ev)) h := rfl
theorem c_hand (k : Nat) {r : Hn} (o : HnOk r) (h : Hp) : callV (sem P (k + 3)) Lib.panels.f_is_hand [.val (hD r)] h = .ok (.val (.bl true)) h := by
  refine call_val (by simp [Rv.free]) rfl (hc := []) ?_ rfl
  rw [sem_succ S.hand]
  refine runFn_eq (ρ := [some (hD r)]) ?_ rfl rfl
  have w2 := fun x l m h => c_is_whole2 (P := P) S.whole (k + 1) x l m h
  have ci := fun h => c_is_counter S.toPRun k o.c h
  have cz := fun h => c_size S.toPRun (k + 1) o.c h
  have e0 := o.b0
  have e1 : r.b ≤ csz r.cs - 1 := by have := o.b1; omega
  have e2 := o.s0
  have e3 := o.s1
  have e4 := o.e0
  have e5 := o.e1
  have ln : ∀ h, b1V h .len (.val (hD r)) = .ok (.val (.int 4)) h := fun h => rfl
  have ty : ∀ h, tyIs .tuple (.val (hD r)) h = some true := fun h => rfl
  simp [Lib.panels.b_is_hand, exs, ex, ev, evs, tst, ty, ln, ih0, ih1, ih2, ih3, w2, ci, cz, e0, e1, e2, e3, e4, e5, Lib.runs.k_MOST_STEP, Lib.panels.k_MOST_EVERY]
omit S in
theorem pD_free (r q : Hn) : (D.tup [hD r, hD q]).free = true := by simp [D.free, D.frees]
theorem c_need_panel (k : Nat) {r q : Hn} (o : HnOk r) (u : HnOk q) (h : Hp) : callV (sem P (k + 4)) Lib.panels.f_need_panel [.val (.tup [hD r, hD q])] h = .ok (.val (.tup [hD r, hD q])) h := by
  refine call_val (by simp [Rv.free, pD_free]) rfl (hc := []) ?_ (pD_free r q)
  rw [sem_succ S.needp]
  refine runFn_eq (ρ := [some (.tup [hD r, hD q]), none]) ?_ rfl rfl
  have c1 := fun h => c_hand S k o h
  have c2 := fun h => c_hand S k u h
  have ln : ∀ h, b1V h .len (.val (.tup [hD r, hD q])) = .ok (.val (.int 2)) h := fun h => rfl
  have ty : ∀ h, tyIs .tuple (.val (.tup [hD r, hD q])) h = some true := fun h => rfl
  have lc : ev (sem P (k + 3)) (.lc [1] (.one 1) (.seq (.var 0)) .nil (.call Lib.panels.f_is_hand (.cons (.var 1) .nil))) [some (.tup [hD r, hD q]), none] [] = .ok (.new (.lst [.bl true, .bl true])) [] := by
    have ei : evi (sem P (k + 3)) (.seq (.var 0)) [some (.tup [hD r, hD q]), none] [] = .ok ([hD r, hD q], []) [] := by
      simp only [evi, ev, List.getElem?_cons_zero, r_bind, itemsOf, Option.map_some, r_opt, watch]
    rw [ev_lc, ei]
    simp only [r_bind]
    rw [compL_map (F := fun _ => .bl true) rfl _ fun x hx => ?_]
    · rfl
    · have bt : bindTg (wipeE [some (.tup [hD r, hD q]), none] [1]) (.one 1) x = some [some (.tup [hD r, hD q]), some x] := rfl
      simp only [List.mem_cons, List.mem_nil_iff, or_false] at hx
      rcases hx with rfl | rfl
      · simp only [lcF, bt, tsts, r_bind, ev, evs, List.getElem?_cons_zero, List.getElem?_cons_succ, c1, boxOne]
      · simp only [lcF, bt, tsts, r_bind, ev, evs, List.getElem?_cons_zero, List.getElem?_cons_succ, c2, boxOne]
  have al : ∀ h, b1V h .all (.new (.lst [.bl true, .bl true])) = .ok (.val (.bl true)) h := fun h => rfl
  unfold Lib.panels.b_need_panel
  generalize E.lc [1] (.one 1) (.seq (.var 0)) .nil (.call Lib.panels.f_is_hand (.cons (.var 1) .nil)) = z at lc ⊢
  simp [exs, ex, ev, tst, ty, ln, lc, al]
theorem c_hand_text (k : Nat) {r : Hn} (o : HnOk r) {n : Int} (nb : n.natAbs < 2 ^ 190) (h : Hp) : callV (sem P (k + 3)) Lib.panels.f_hand_text [.val (hD r), .val (.int n)] h = .ok (.val (.str (PC.tx r.cs (hsh r n)))) h := by
  refine call_val (by simp [Rv.free, D.free]) rfl (hc := []) ?_ rfl
  rw [sem_succ S.htext]
  refine runFn_eq (ρ := [some (hD r), some (.int n)]) ?_ rfl rfl
  have e0 := o.e0
  have e1 := o.e1
  have dv : divOk r.ev = true := divOk_of 200 (by omega) (nat_lt (by omega) (by omega)) (by omega)
  have qb : (n / r.ev).natAbs < 2 ^ 200 := by
    have a1 := Int.ediv_mul_add_emod n r.ev
    have a2 := Int.emod_nonneg n (show r.ev ≠ 0 by omega)
    have a3 := Int.emod_lt_of_pos n (show 0 < r.ev by omega)
    have : (n / r.ev).natAbs ≤ n.natAbs + 1000000 := by
      by_cases c : 0 ≤ n
      · have q0 : 0 ≤ n / r.ev := Int.ediv_nonneg c (by omega)
        have : n / r.ev * 1 ≤ n / r.ev * r.ev := Int.mul_le_mul_of_nonneg_left e0 q0
        omega
      · have q0 : n / r.ev ≤ 0 := Int.ediv_nonpos_of_nonpos_of_neg (by omega) (by omega)
        have : n / r.ev * r.ev ≤ n / r.ev * 1 := Int.mul_le_mul_of_nonpos_left q0 e0
        omega
    omega
  have c1 := fun h => c_shown S.toPRun k o.c (b := r.b) (st := r.st) (s := n / r.ev) qb o.stb h
  have c2 := fun x h => c_text S.toPRun (k + 1) o.c x h
  simp [Lib.panels.b_hand_text, exs, ex, ev, evs, ih0, ih1, ih2, ih3, dv, c1, c2, hsh]
theorem c_pshown (k : Nat) {r q : Hn} (o : HnOk r) (u : HnOk q) {n : Int} (n0 : 0 ≤ n) (n1 : n ≤ 10000000000000000000000000000000000000000) (h : Hp) : callV (sem P (k + 5)) Lib.panels.f_shown [.val (.tup [hD r, hD q]), .val (.int n)] h = .ok (.val (.tup [.str (PC.tx r.cs (hsh r n)), .str (PC.tx q.cs (hsh q n))])) h := by
  refine call_val (by simp [Rv.free, D.free, D.frees]) rfl (hc := []) ?_ rfl
  rw [sem_succ S.shwn]
  refine runFn_eq (ρ := [some (.tup [hD r, hD q]), some (.int n)]) ?_ rfl rfl
  have c1 := fun h => c_need_panel S k o u h
  have c2 := fun h => c_hand_text S (k + 1) o (n := n) (by omega) h
  have c3 := fun h => c_hand_text S (k + 1) u (n := n) (by omega) h
  have w2 := fun x l m h => c_is_whole2 (P := P) S.whole (k + 3) x l m h
  have i0 : ∀ h, idxV h (.val (.tup [hD r, hD q])) (.val (.int 0)) = .ok (.val (hD r)) h := fun h => rfl
  have i1 : ∀ h, idxV h (.val (.tup [hD r, hD q])) (.val (.int 1)) = .ok (.val (hD q)) h := fun h => rfl
  simp [Lib.panels.b_shown, exs, ex, ev, evs, tst, c1, w2, n0, n1, i0, i1, c2, c3, boxAll, boxOne, Lib.panels.k_LAST_LABEL]
theorem c_turn (k : Nat) {r : Hn} (o : HnOk r) (h : Hp) : callV (sem P (k + 3)) Lib.panels.f_turn_of [.val (hD r)] h = .ok (.val (.int (r.ev * hT r))) h := by
  refine call_val (by simp [Rv.free]) rfl (hc := []) ?_ rfl
  rw [sem_succ S.turn]
  refine runFn_eq (ρ := [some (hD r)]) ?_ rfl rfl
  have c1 := fun h => c_round S.toPRun k o.c (st := r.st) o.stb h
  have t := o.t
  have w := o.wb
  have e0 := o.e0
  have e1 := o.e1
  have m : mulOk r.ev (rnd (csz r.cs) r.st) = true := mulOk_of 100 100 (nat_lt (by omega) (by omega)) (nat_lt (by have := o.t.1; unfold hT at this; omega) (by have := o.t.2; unfold hT at this; omega)) (by omega)
  simp [Lib.panels.b_turn_of, exs, ex, ev, evs, ih0, ih2, ih3, c1, m, hT]
/-- behind how many labels both hands stand as at first -/
def bck (r q : Hn) : Int := r.ev * hT r / (Nat.gcd (r.ev * hT r).natAbs (q.ev * hT q).natAbs : Nat) * (q.ev * hT q)
omit S in
theorem gpos {r q : Hn} (o : HnOk r) : 0 < (Nat.gcd (r.ev * hT r).natAbs (q.ev * hT q).natAbs : Nat) := Nat.gcd_pos_of_pos_left _ (by have := o.nb; omega)
omit S in
theorem bck_eq {r q : Hn} (o : HnOk r) (u : HnOk q) : ∃ x y : Int, bck r q = x * (r.ev * hT r) ∧ bck r q = y * (q.ev * hT q) ∧ 0 < bck r q ∧ bck r q < 2 ^ 240 := by
  have g0 := gpos (q := q) o
  obtain ⟨y, hy⟩ : (Nat.gcd (r.ev * hT r).natAbs (q.ev * hT q).natAbs : Int) ∣ r.ev * hT r := nd (Nat.gcd_dvd_left _ _)
  obtain ⟨x, hx⟩ : (Nat.gcd (r.ev * hT r).natAbs (q.ev * hT q).natAbs : Int) ∣ q.ev * hT q := nd (Nat.gcd_dvd_right _ _)
  have n1 := o.nb
  have n2 := u.nb
  unfold bck
  generalize r.ev * hT r = A at *
  generalize q.ev * hT q = B at *
  generalize (Nat.gcd A.natAbs B.natAbs : Nat) = g at *
  have e : A / (g : Int) = y := by rw [hy, Int.mul_ediv_cancel_left _ (by omega)]
  have y0 : 0 < y := by
    rcases Int.lt_or_le 0 y with z | z
    · exact z
    · have := Int.mul_nonpos_of_nonneg_of_nonpos (show (0 : Int) ≤ (g : Int) by omega) z
      omega
  have y1 : y ≤ A := by
    have : 1 * y ≤ (g : Int) * y := Int.mul_le_mul_of_nonneg_right (by omega) (by omega)
    omega
  rw [e]
  refine ⟨x, y, ?_, rfl, Int.mul_pos y0 (by omega), ?_⟩
  · rw [hx, hy]
    rw [← Int.mul_assoc, ← Int.mul_assoc, Int.mul_comm y, Int.mul_comm x, Int.mul_assoc, Int.mul_assoc, Int.mul_comm x y]
  · have : y * B ≤ 2 ^ 120 * 2 ^ 120 := Int.mul_le_mul (by omega) (by omega) (by omega) (by omega)
    have z : y * B ≠ 2 ^ 120 * 2 ^ 120 := by
      have : y * B ≤ (2 ^ 120 - 1) * 2 ^ 120 := Int.mul_le_mul (by omega) (by omega) (by omega) (by omega)
      omega
    omega
theorem c_back (k : Nat) {r q : Hn} (o : HnOk r) (u : HnOk q) (h : Hp) : callV (sem P (k + 5)) Lib.panels.f_comes_back [.val (.tup [hD r, hD q])] h = .ok (.val (.int (bck r q))) h := by
  refine call_val (by simp [Rv.free, pD_free]) rfl (hc := []) ?_ rfl
  rw [sem_succ S.back]
  refine runFn_eq (ρ := [some (.tup [hD r, hD q]), none, none]) ?_ rfl rfl
  have c1 := fun h => c_need_panel S k o u h
  have c2 := fun h => c_turn S (k + 1) o h
  have c3 := fun h => c_turn S (k + 1) u h
  have n1 := o.nb
  have n2 := u.nb
  have cc := fun h => c_common S.toPRun (k + 3) (x := r.ev * hT r) (y := q.ev * hT q) (by omega) h
  have i0 : ∀ h, idxV h (.val (.tup [hD r, hD q])) (.val (.int 0)) = .ok (.val (hD r)) h := fun h => rfl
  have i1 : ∀ h, idxV h (.val (.tup [hD r, hD q])) (.val (.int 1)) = .ok (.val (hD q)) h := fun h => rfl
  have g0 := gpos (q := q) o
  have g1 : ((Nat.gcd (r.ev * hT r).natAbs (q.ev * hT q).natAbs : Nat) : Int) ≤ r.ev * hT r := by
    have := Nat.gcd_le_left (q.ev * hT q).natAbs (show 0 < (r.ev * hT r).natAbs by omega)
    omega
  have dv : divOk ((Nat.gcd (r.ev * hT r).natAbs (q.ev * hT q).natAbs : Nat) : Int) = true := divOk_of 200 (by omega) (nat_lt (by omega) (by omega)) (by omega)
  have m : mulOk (r.ev * hT r / (Nat.gcd (r.ev * hT r).natAbs (q.ev * hT q).natAbs : Nat)) (q.ev * hT q) = true := by
    have a0 : 0 ≤ r.ev * hT r / (Nat.gcd (r.ev * hT r).natAbs (q.ev * hT q).natAbs : Nat) := Int.ediv_nonneg (by omega) (by omega)
    have a1 : r.ev * hT r / (Nat.gcd (r.ev * hT r).natAbs (q.ev * hT q).natAbs : Nat) ≤ r.ev * hT r := Int.ediv_le_self _ (by omega)
    exact mulOk_of 200 200 (nat_lt (by omega) (by omega)) (nat_lt (by omega) (by omega)) (by omega)
  simp only [Lib.panels.b_comes_back, exs, ex, ev, evs, r_bind, r_st, List.getElem?_cons_zero, List.getElem?_cons_succ, c1, i0, i1, c2, c3, boxAll, boxOne, List.length_cons, List.length_nil, Nat.zero_add, Nat.reduceAdd, lim_2, decide_true, r_when, bindTg, if_true, List.zip_cons_cons, List.zip_nil_right, List.foldl_cons, List.foldl_nil, List.set_cons_zero, List.set_cons_succ, cc, bin_fdiv, dv, bin_mul, m, bck]
theorem c_first_with (k : Nat) {r : Hn} (o : HnOk r) {τ : Int} (t0 : 0 ≤ τ) (t1 : τ < csz r.cs) : ∃ f, IsSer (csz r.cs) r.b r.st τ f ∧ ∀ h, callV (sem P (k + 3)) Lib.panels.f_first_with [.val (hD r), .val (.str (PC.tx r.cs τ))] h = .ok (.val (optD (f.map fun s => s * r.ev))) h := by
  obtain ⟨f, isf, cs⟩ := c_serial S.toPRun k o.c (b := r.b) (st := r.st) (n := τ) o.stb t0 t1
  refine ⟨f, isf, fun h => ?_⟩
  refine call_val (by simp [Rv.free, D.free]) rfl (hc := []) ?_ (optD_free _)
  rw [sem_succ S.fwith]
  refine runFn_eq (ρ := [some (hD r), some (.str (PC.tx r.cs τ)), none]) ?_ rfl rfl
  have tx := tx_Tx o.c.dls τ
  have cn := fun h => c_number S.toPRun (k + 1) o.c tx h
  have en : nm r.cs (PC.tx r.cs τ) = τ := (nm_tx o.c.dls τ).trans (Int.emod_eq_of_lt t0 t1)
  rw [en] at cn
  cases f with
  | none => simp [Lib.panels.b_first_with, exs, ex, ev, evs, tst, ih0, ih1, ih2, ih3, cn, cs, boxOne, optD]
  | some s =>
    have t := o.t
    have w := o.wb
    obtain ⟨f0, f1, _⟩ := isf
    have f1' : s < hT r := f1
    have e0 := o.e0
    have e1 := o.e1
    have m : mulOk s r.ev = true := mulOk_of 200 200 (nat_lt (by omega) (by omega)) (nat_lt (by omega) (by omega)) (by omega)
    simp [Lib.panels.b_first_with, exs, ex, ev, evs, tst, ih0, ih1, ih2, ih3, cn, cs, boxOne, optD, m]
theorem c_first_hit (k : Nat) {a b m H : Int} (a0 : 0 ≤ a) (a1 : a < m) (H0 : 0 ≤ H) (b0 : 0 ≤ b) (b2 : b < m) (mb : m < 2 ^ 200) : ∃ o : Option Int, PM.FH a b m H o ∧ (∀ t, o = some t → t < m) ∧ ∀ h, callV (sem P (k + 4)) Lib.ladders.f_first_hit [.val (.int a), .val (.int b), .val (.int m), .val (.int H)] h = .ok (.val (optD o)) h := by
  by_cases z : b ≤ H
  · refine ⟨some 0, ⟨by omega, ?_, fun u u0 u1 => by omega⟩, fun t e => by cases e; omega, fun h => ?_⟩
    · rw [Int.mul_zero, Int.zero_add, Int.emod_eq_of_lt b0 b2]; exact z
    · refine call_val (by simp [Rv.free, D.free]) rfl (hc := []) ?_ rfl
      rw [sem_succ S.fhit]
      refine runFn_eq (ρ := [some (.int a), some (.int b), some (.int m), some (.int H)]) ?_ rfl rfl
      have z' : ¬ H < b := by omega
      simp [Lib.ladders.b_first_hit, exs, ex, ev, tst, z', optD]
  · have ok : (PL.Q.mk a m (m - b) (m - b + H)).ok := ⟨a0, a1, by show 0 ≤ m - b; omega, by show m - b ≤ m - b + H; omega, by show m - b + H < m; omega⟩
    obtain ⟨l, hl⟩ := PL.lad_ex (a.toNat + 1) ⟨a, m, m - b, m - b + H⟩ ok (Nat.lt_succ_self _)
    have B : Big ⟨a, m, m - b, m - b + H⟩ := ⟨ok, mb⟩
    have ia := hl.ans ok
    have fh := PM.first_hit a0 a1 H0 (by omega) b2 ia
    refine ⟨PL.ansR l, fh, fun t e => ?_, fun h => ?_⟩
    · rw [e] at ia
      exact PL.ans_lt (show 0 < m by omega) ia
    · refine call_val (by simp [Rv.free, D.free]) rfl (hc := []) ?_ (optD_free _)
      rw [sem_succ S.fhit]
      refine runFn_eq (ρ := [some (.int a), some (.int b), some (.int m), some (.int H)]) ?_ rfl rfl
      have z' : H < b := by omega
      have c1 := fun h => c_ladder_in S.toPLad0 k hl B h
      have c2 := fun h => c_answer_of S.toPLad0 (k + 1) hl B h
      have eq : qD ⟨a, m, m - b, m - b + H⟩ = .tup [.int a, .int m, .int (m - b), .int (m - b + H)] := rfl
      rw [eq] at c1
      simp [Lib.ladders.b_first_hit, exs, ex, ev, evs, tst, z', boxAll, boxOne, c1, c2]
/-- the least label at which two texts meet -/
def IsMeet (r q : Hn) (τ τ' : Int) : Option Int → Prop
  | some n => 0 ≤ n ∧ hsh r n = τ ∧ hsh q n = τ' ∧ ∀ m, 0 ≤ m → hsh r m = τ → hsh q m = τ' → n ≤ m
  | none => ∀ m, 0 ≤ m → ¬ (hsh r m = τ ∧ hsh q m = τ')
theorem c_meet (k : Nat) {r q : Hn} (o : HnOk r) (u : HnOk q) {τ τ' : Int} (t0 : 0 ≤ τ) (t1 : τ < csz r.cs) (v0 : 0 ≤ τ') (v1 : τ' < csz q.cs) : ∃ m, IsMeet r q τ τ' m ∧ ∀ h, callV (sem P (k + 5)) Lib.panels.f_meet [.val (.tup [hD r, hD q]), .val (.str (PC.tx r.cs τ)), .val (.str (PC.tx q.cs τ'))] h = .ok (.val (optD m)) h := by
  obtain ⟨f, isf, cf⟩ := c_first_with S (k + 1) o t0 t1
  obtain ⟨g, isg, cg⟩ := c_first_with S (k + 1) u v0 v1
  have c1 := fun h => c_need_panel S k o u h
  have c2 := fun h => c_is_text S.toPRun (k + 3) o.c (tx_Tx o.c.dls τ) h
  have c3 := fun h => c_is_text S.toPRun (k + 3) u.c (tx_Tx u.c.dls τ') h
  have d1 := fun h => c_turn S (k + 1) o h
  have d2 := fun h => c_turn S (k + 1) u h
  have bt : ∀ ρ : Env, bindTg ρ (.many [7, 8]) (.tup [hD r, hD q]) = some ((ρ.set 7 (some (hD r))).set 8 (some (hD q))) := fun ρ => rfl
  have run : ∀ m : Option Int, (∀ ρ, ρ = [some (D.tup [hD r, hD q]), some (.str (PC.tx r.cs τ)), some (.str (PC.tx q.cs τ')), none, none, none, none, none, none, none, none, none, none] → exs (sem P (k + 4)) Lib.panels.b_meet ρ [] = .rt (.val (optD m)) []) → ∀ h, callV (sem P (k + 5)) Lib.panels.f_meet [.val (.tup [hD r, hD q]), .val (.str (PC.tx r.cs τ)), .val (.str (PC.tx q.cs τ'))] h = .ok (.val (optD m)) h := fun m H h => by
    refine call_val (by simp [Rv.free, D.free, D.frees]) rfl (hc := []) ?_ (optD_free _)
    rw [sem_succ S.meet]
    exact runFn_eq (H _ rfl) rfl rfl
  have show_iff : ∀ {r : Hn} {τ s : Int}, IsSer (csz r.cs) r.b r.st τ (some s) → ∀ n, hsh r n = τ ↔ n / r.ev % hT r = s := fun h n => h.2.2 (n / _)
  cases f with
  | none =>
    refine ⟨none, fun m m0 ⟨a, b⟩ => isf (m / r.ev) a, run none fun ρ hρ => ?_⟩
    subst hρ
    simp only [Option.map_none, optD] at cf
    cases g with
    | none =>
      simp only [Option.map_none, optD] at cg
      simp [Lib.panels.b_meet, exs, ex, ev, evs, tst, c1, bt, ih0, c2, c3, cf, cg, boxAll, boxOne, bindTg, optD]
    | some s' =>
      simp only [Option.map_some, optD] at cg
      simp [Lib.panels.b_meet, exs, ex, ev, evs, tst, c1, bt, ih0, c2, c3, cf, cg, boxAll, boxOne, bindTg, optD]
  | some s =>
    simp only [Option.map_some, optD] at cf
    cases g with
    | none =>
      refine ⟨none, fun m m0 ⟨a, b⟩ => isg (m / q.ev) b, run none fun ρ hρ => ?_⟩
      subst hρ
      simp only [Option.map_none, optD] at cg
      simp [Lib.panels.b_meet, exs, ex, ev, evs, tst, c1, bt, ih0, c2, c3, cf, cg, boxAll, boxOne, bindTg, optD]
    | some s' =>
      simp only [Option.map_some, optD] at cg
      have f0 := isf.1
      have f1 : s < hT r := isf.2.1
      have g0 := isg.1
      have g1 : s' < hT q := isg.2.1
      have e0 := o.e0
      have e1 := o.e1
      have e0' := u.e0
      have e1' := u.e1
      have nb := o.nb
      have nb' := u.nb
      have far0 : 0 < q.ev * hT q := by omega
      have A0 := Int.emod_nonneg (r.ev * hT r) (show q.ev * hT q ≠ 0 by omega)
      have A1 := Int.emod_lt_of_pos (r.ev * hT r) far0
      have B0 := Int.emod_nonneg (s * r.ev - s' * q.ev + r.ev - 1) (show q.ev * hT q ≠ 0 by omega)
      have B1 := Int.emod_lt_of_pos (s * r.ev - s' * q.ev + r.ev - 1) far0
      obtain ⟨w, hw, wl, cw⟩ := c_first_hit S k (a := r.ev * hT r % (q.ev * hT q)) (b := (s * r.ev - s' * q.ev + r.ev - 1) % (q.ev * hT q)) (m := q.ev * hT q) (H := (if r.ev + q.ev - 1 < q.ev * hT q then r.ev + q.ev - 1 else q.ev * hT q) - 1) A0 A1 (by split <;> omega) B0 B1 (by omega)
      have mt := PM.meets (o := w) e0 e0' f0 f1 g0 g1 hw
      cases w with
      | none =>
        refine ⟨none, fun m m0 ⟨a, b⟩ => mt m m0 ⟨(show_iff isf m).mp a, (show_iff isg m).mp b⟩, run none fun ρ hρ => ?_⟩
        subst hρ
        simp only [optD] at cw
        simp [Lib.panels.b_meet, exs, ex, ev, evs, tst, c1, bt, ih0, ih3, c2, c3, cf, cg, d1, d2, far0, cw, boxAll, boxOne, bindTg, optD]
      | some t =>
        obtain ⟨⟨b1, b2⟩, b3, b4⟩ := mt
        have t00 : 0 ≤ t := hw.1
        have t01 := wl t rfl
        refine ⟨some (PM.told (s * r.ev + t * (r.ev * hT r)) (s' * q.ev) (q.ev * hT q) q.ev), ⟨b3, (show_iff isf _).mpr b1, (show_iff isg _).mpr b2, fun m m0 a b => b4 m m0 ⟨(show_iff isf m).mp a, (show_iff isg m).mp b⟩⟩, run _ fun ρ hρ => ?_⟩
        subst hρ
        simp only [optD] at cw
        have m : mulOk t (r.ev * hT r) = true := mulOk_of 200 200 (nat_lt (by omega) (by omega)) (nat_lt (by omega) (by omega)) (by omega)
        by_cases c : (s * r.ev + t * (r.ev * hT r) - s' * q.ev) % (q.ev * hT q) < q.ev
        · simp [Lib.panels.b_meet, exs, ex, ev, evs, tst, c1, bt, ih0, ih3, c2, c3, cf, cg, d1, d2, far0, cw, m, c, boxAll, boxOne, bindTg, optD, PM.told]
        · simp [Lib.panels.b_meet, exs, ex, ev, evs, tst, c1, bt, ih0, ih3, c2, c3, cf, cg, d1, d2, far0, cw, m, c, boxAll, boxOne, bindTg, optD, PM.told]
end
end G

namespace K13
open PySem PySem.Spec L2 G
open PyProof.Rows hiding St
/-! the defs of law_k13_whole_panels -/
abbrev f__law_begun : Nat := 5026
abbrev f__law_next : Nat := 5027
abbrev f__law_counter : Nat := 5028
abbrev f__law_size : Nat := 5029
abbrev f__law_text : Nat := 5030
abbrev f__law_hand : Nat := 5031
abbrev f__law_text_of : Nat := 5032
abbrev f__law_turn : Nat := 5033
abbrev f__law_back : Nat := 5034
abbrev f_law : Nat := 5035
def d_is_whole : Df := ⟨71, "is_whole", ["thing", "least", "most"], ["thing", "least", "most"], Lib.counters.fn_is_whole⟩
def d_is_dial : Df := ⟨72, "is_dial", ["thing", "sign"], ["thing"], Lib.counters.fn_is_dial⟩
def d_is_counter : Df := ⟨74, "is_counter", ["thing", "dial"], ["thing"], Lib.counters.fn_is_counter⟩
def d_size_in : Df := ⟨75, "size_in", ["counter", "found", "dial"], ["counter"], Lib.counters.fn_size_in⟩
def d_text_in : Df := ⟨77, "text_in", ["counter", "number", "found", "dial"], ["counter", "number"], Lib.counters.fn_text_in⟩
def d_is_text : Df := ⟨79, "is_text", ["counter", "thing", "sign", "dial"], ["counter", "thing"], Lib.counters.fn_is_text⟩
def d_number_in : Df := ⟨80, "number_in", ["counter", "text", "found", "sign", "dial"], ["counter", "text"], Lib.counters.fn_number_in⟩
def d_common : Df := ⟨276, "common", ["one", "other"], ["one", "other"], Lib.runs.fn_common⟩
def d_inverse : Df := ⟨277, "inverse", ["one", "whole", "here", "far", "first", "second", "times"], ["one", "whole"], Lib.runs.fn_inverse⟩
def d_number_shown : Df := ⟨278, "number_shown", ["counter", "begin", "step", "serial"], ["counter", "begin", "step", "serial"], Lib.runs.fn_number_shown⟩
def d_round_in : Df := ⟨280, "round_in", ["counter", "step"], ["counter", "step"], Lib.runs.fn_round_in⟩
def d_serial_with : Df := ⟨283, "serial_with", ["counter", "begin", "step", "number", "whole", "part", "rest"], ["counter", "begin", "step", "number"], Lib.runs.fn_serial_with⟩
def d_least_times : Df := ⟨174, "least_times", ["a", "least"], ["a", "least"], Lib.ladders.fn_least_times⟩
def d_is_plain : Df := ⟨175, "is_plain", ["question", "a", "m", "low", "high"], ["question"], Lib.ladders.fn_is_plain⟩
def d_behind : Df := ⟨176, "behind", ["question", "a", "m", "low", "high"], ["question"], Lib.ladders.fn_behind⟩
def d_ladder_in : Df := ⟨177, "ladder_in", ["question", "found"], ["question"], Lib.ladders.fn_ladder_in⟩
def d_answer_of : Df := ⟨179, "answer_of", ["rungs", "found", "a", "m", "low", "high"], ["rungs"], Lib.ladders.fn_answer_of⟩
def d_first_hit : Df := ⟨185, "first_hit", ["a", "b", "m", "high"], ["a", "b", "m", "high"], Lib.ladders.fn_first_hit⟩
def d_is_hand : Df := ⟨209, "is_hand", ["thing"], ["thing"], Lib.panels.fn_is_hand⟩
def d_need_panel : Df := ⟨210, "need_panel", ["panel", "hand"], ["panel"], Lib.panels.fn_need_panel⟩
def d_hand_text : Df := ⟨211, "hand_text", ["hand", "number"], ["hand", "number"], Lib.panels.fn_hand_text⟩
def d_shown : Df := ⟨212, "shown", ["panel", "number"], ["panel", "number"], Lib.panels.fn_shown⟩
def d_turn_of : Df := ⟨213, "turn_of", ["hand"], ["hand"], Lib.panels.fn_turn_of⟩
def d_comes_back : Df := ⟨214, "comes_back", ["panel", "one", "other"], ["panel"], Lib.panels.fn_comes_back⟩
def d_first_with : Df := ⟨215, "first_with", ["hand", "text", "serial"], ["hand", "text"], Lib.panels.fn_first_with⟩
def d_meet : Df := ⟨216, "meet", ["panel", "first", "second", "ahead", "turn", "begin", "late", "one", "other", "here", "there", "near", "far"], ["panel", "first", "second"], Lib.panels.fn_meet⟩
def b__law_begun : Ss := (.cons (.ret (.dk [[99, 101, 108, 108, 115], [108, 101, 102, 116], [97, 116]] (.cons (.b1 .list (.var 0)) (.cons (.lc [1] (.one 1) (.seq (.var 0)) (.cons (.cmp .ge (.var 1) (.bin .pow (.c (.int 10)) (.c (.int 18)))) .nil) (.var 1)) (.cons (.c (.int 0)) .nil))))) .nil)
def fn__law_begun : Fn := ⟨1, 2, b__law_begun⟩
def d__law_begun : Df := ⟨5026, "_law_begun", ["_law_script", "_law_cell"], ["_law_script"], fn__law_begun⟩
def b__law_next : Ss := (.cons (.whl (.and (.cmp .ne (.idx (.var 0) (.c (.str [108, 101, 102, 116]))) (.lst .nil)) (.cmp .eq (.idx (.idx (.var 0) (.c (.str [108, 101, 102, 116]))) (.c (.int 0))) (.c (.int 0)))) (.cons (.set (.var 0) (.c (.str [108, 101, 102, 116])) (.slc (.idx (.var 0) (.c (.str [108, 101, 102, 116]))) (.some (.c (.int 1))) .none)) .nil)) (.cons (.ife (.cmp .ne (.idx (.var 0) (.c (.str [108, 101, 102, 116]))) (.lst .nil)) (.cons (.asg 5 (.b1 .int (.idx (.idx (.var 0) (.c (.str [108, 101, 102, 116]))) (.c (.int 0))))) (.cons (.set (.idx (.var 0) (.c (.str [108, 101, 102, 116]))) (.c (.int 0)) (.bin .fdiv (.var 5) (.var 1))) (.cons (.ret (.bin .mod (.var 5) (.var 1))) .nil))) .nil) (.cons (.asg 2 (.bin .add (.idx (.var 0) (.c (.str [97, 116]))) (.c (.int 1)))) (.cons (.set (.var 0) (.c (.str [97, 116])) (.var 2)) (.cons (.asg 3 (.ife (.cmp .ne (.idx (.var 0) (.c (.str [99, 101, 108, 108, 115]))) (.lst .nil)) (.idx (.idx (.var 0) (.c (.str [99, 101, 108, 108, 115]))) (.bin .mod (.b1 .int (.var 2)) (.b1 .len (.idx (.var 0) (.c (.str [99, 101, 108, 108, 115])))))) (.c (.int 3)))) (.cons (.asg 4 (.bin .mul (.b1 .int (.bin .add (.bin .add (.bin .mod (.b1 .int (.var 3)) (.c (.int 2147483629))) (.bin .mul (.c (.int 7919)) (.var 2))) (.bin .mul (.bin .mul (.c (.int 19)) (.var 2)) (.var 2)))) (.c (.int 48271)))) (.cons (.asg 4 (.bin .mul (.b1 .int (.bin .add (.bin .mod (.b1 .int (.var 4)) (.c (.int 2147483647))) (.bin .mul (.c (.int 104729)) (.var 2)))) (.c (.int 69621)))) (.cons (.ret (.bin .mod (.b1 .int (.bin .fdiv (.bin .mod (.b1 .int (.var 4)) (.c (.int 2147483587))) (.c (.int 11)))) (.var 1))) .nil))))))))
def fn__law_next : Fn := ⟨2, 6, b__law_next⟩
def d__law_next : Df := ⟨5027, "_law_next", ["_law_m", "_law_total", "_law_k", "_law_cell", "_law_mixed", "_law_rest"], ["_law_m", "_law_total"], fn__law_next⟩
def b__law_counter : Ss := (.cons (.asgT [3, 4] (.tup (.cons (.tup .nil) (.cons (.c (.int 1)) .nil)))) (.cons (.for_ (.one 2) (.r1 (.bin .add (.c (.int 1)) (.call f__law_next (.cons (.var 0) (.cons (.c (.int 3)) .nil))))) (.cons (.asg 5 (.idx (.lst (.cons (.c (.str [48, 49])) (.cons (.c (.str [97, 98, 99])) (.cons (.c (.str [119, 120, 121, 122])) (.cons (.c (.str [53, 52, 51, 50, 49])) .nil))))) (.call f__law_next (.cons (.var 0) (.cons (.c (.int 4)) .nil))))) (.cons (.ife (.cmp .le (.bin .mul (.var 4) (.b1 .len (.var 5))) (.var 1)) (.cons (.asgT [3, 4] (.tup (.cons (.bin .add (.var 3) (.tup (.cons (.var 5) .nil))) (.cons (.bin .mul (.var 4) (.b1 .len (.var 5))) .nil)))) .nil) .nil) .nil))) (.cons (.ret (.ife (.cmp .ne (.var 3) (.tup .nil)) (.var 3) (.tup (.cons (.c (.str [48, 49])) .nil)))) .nil)))
def fn__law_counter : Fn := ⟨2, 6, b__law_counter⟩
def d__law_counter : Df := ⟨5028, "_law_counter", ["_law_m", "_law_most", "_law_k", "_law_found", "_law_bulk", "_law_dial"], ["_law_m", "_law_most"], fn__law_counter⟩
def b__law_size : Ss := (.cons (.asg 1 (.c (.int 1))) (.cons (.for_ (.one 2) (.seq (.var 0)) (.cons (.asg 1 (.bin .mul (.var 1) (.b1 .len (.var 2)))) .nil)) (.cons (.ret (.var 1)) .nil)))
def fn__law_size : Fn := ⟨1, 3, b__law_size⟩
def d__law_size : Df := ⟨5029, "_law_size", ["_law_counter_here", "_law_found", "_law_dial"], ["_law_counter_here"], fn__law_size⟩
def b__law_text : Ss := (.cons (.asg 2 (.c (.str []))) (.cons (.for_ (.one 3) (.seq (.rev (.var 0))) (.cons (.asg 2 (.bin .add (.idx (.var 3) (.bin .mod (.b1 .int (.var 1)) (.b1 .len (.var 3)))) (.var 2))) (.cons (.asg 1 (.bin .fdiv (.var 1) (.b1 .len (.var 3)))) .nil))) (.cons (.ret (.var 2)) .nil)))
def fn__law_text : Fn := ⟨2, 4, b__law_text⟩
def d__law_text : Df := ⟨5030, "_law_text", ["_law_counter_here", "_law_number", "_law_found", "_law_dial"], ["_law_counter_here", "_law_number"], fn__law_text⟩
def b__law_hand : Ss := (.cons (.asg 1 (.call f__law_counter (.cons (.var 0) (.cons (.c (.int 12)) .nil)))) (.cons (.asg 2 (.call f__law_size (.cons (.var 1) .nil))) (.cons (.ret (.tup (.cons (.var 1) (.cons (.call f__law_next (.cons (.var 0) (.cons (.var 2) .nil))) (.cons (.bin .sub (.call f__law_next (.cons (.var 0) (.cons (.bin .mul (.c (.int 3)) (.var 2)) .nil))) (.var 2)) (.cons (.bin .add (.c (.int 1)) (.call f__law_next (.cons (.var 0) (.cons (.c (.int 4)) .nil)))) .nil)))))) .nil)))
def fn__law_hand : Fn := ⟨1, 3, b__law_hand⟩
def d__law_hand : Df := ⟨5031, "_law_hand", ["_law_m", "_law_counter_here", "_law_bulk"], ["_law_m"], fn__law_hand⟩
def b__law_text_of : Ss := (.cons (.asg 2 (.call f__law_size (.cons (.idx (.var 0) (.c (.int 0))) .nil))) (.cons (.ret (.call f__law_text (.cons (.idx (.var 0) (.c (.int 0))) (.cons (.bin .mod (.b1 .int (.bin .add (.idx (.var 0) (.c (.int 1))) (.bin .mul (.bin .fdiv (.var 1) (.idx (.var 0) (.c (.int 3)))) (.idx (.var 0) (.c (.int 2)))))) (.var 2)) .nil)))) .nil))
def fn__law_text_of : Fn := ⟨2, 3, b__law_text_of⟩
def d__law_text_of : Df := ⟨5032, "_law_text_of", ["_law_hand_here", "_law_number", "_law_bulk"], ["_law_hand_here", "_law_number"], fn__law_text_of⟩
def b__law_turn : Ss := (.cons (.asg 1 (.c (.int 1))) (.cons (.whl (.cmp .ne (.bin .mod (.b1 .int (.bin .mul (.var 1) (.idx (.var 0) (.c (.int 2))))) (.call f__law_size (.cons (.idx (.var 0) (.c (.int 0))) .nil))) (.c (.int 0))) (.cons (.asg 1 (.bin .add (.var 1) (.c (.int 1)))) .nil)) (.cons (.ret (.bin .mul (.var 1) (.idx (.var 0) (.c (.int 3))))) .nil)))
def fn__law_turn : Fn := ⟨1, 2, b__law_turn⟩
def d__law_turn : Df := ⟨5033, "_law_turn", ["_law_hand_here", "_law_found"], ["_law_hand_here"], fn__law_turn⟩
def b__law_back : Ss := (.cons (.asg 2 (.call f__law_turn (.cons (.var 0) .nil))) (.cons (.whl (.cmp .ne (.bin .mod (.b1 .int (.var 2)) (.call f__law_turn (.cons (.var 1) .nil))) (.c (.int 0))) (.cons (.asg 2 (.bin .add (.var 2) (.call f__law_turn (.cons (.var 0) .nil)))) .nil)) (.cons (.ret (.var 2)) .nil)))
def fn__law_back : Fn := ⟨2, 3, b__law_back⟩
def d__law_back : Df := ⟨5034, "_law_back", ["_law_one", "_law_other", "_law_found"], ["_law_one", "_law_other"], fn__law_back⟩
def b_law : Ss := (.cons (.asg 1 (.call f__law_begun (.cons (.var 0) .nil))) (.cons (.for_ (.one 2) (.r1 (.bin .add (.c (.int 2)) (.b2 .min (.b1 .len (.var 0)) (.c (.int 4))))) (.cons (.asg 3 (.tup (.cons (.call f__law_hand (.cons (.var 1) .nil)) (.cons (.call f__law_hand (.cons (.var 1) .nil)) .nil)))) (.cons (.asg 4 (.call f__law_back (.cons (.idx (.var 3) (.c (.int 0))) (.cons (.idx (.var 3) (.c (.int 1))) .nil)))) (.cons (.asg 5 (.lc [9] (.one 9) (.r1 (.bin .add (.var 4) (.c (.int 3)))) .nil (.tup (.cons (.call f__law_text_of (.cons (.idx (.var 3) (.c (.int 0))) (.cons (.var 9) .nil))) (.cons (.call f__law_text_of (.cons (.idx (.var 3) (.c (.int 1))) (.cons (.var 9) .nil))) .nil))))) (.cons (.ife (.or (.cmp .ne (.lc [9] (.one 9) (.r1 (.bin .add (.var 4) (.c (.int 3)))) .nil (.call Lib.panels.f_shown (.cons (.var 3) (.cons (.var 9) .nil)))) (.var 5)) (.cmp .ne (.b1 .repr (.call Lib.panels.f_comes_back (.cons (.var 3) .nil))) (.b1 .repr (.var 4)))) (.cons (.ret (.c (.bl false))) .nil) .nil) (.cons (.for_ (.one 6) (.r1 (.c (.int 5))) (.cons (.asg 7 (.b1 .tuple (.lc [10] (.one 10) (.seq (.var 3)) .nil (.call f__law_text (.cons (.idx (.var 10) (.c (.int 0))) (.cons (.call f__law_next (.cons (.var 1) (.cons (.call f__law_size (.cons (.idx (.var 10) (.c (.int 0))) .nil)) .nil))) .nil)))))) (.cons (.asg 8 (.ife (.cmp .inD (.var 7) (.slc (.var 5) .none (.some (.var 4)))) (.mt .indexL (.var 5) (.cons (.var 7) .nil)) (.c .non))) (.cons (.ife (.cmp .ne (.b1 .repr (.call Lib.panels.f_meet (.cons (.var 3) (.cons (.idx (.var 7) (.c (.int 0))) (.cons (.idx (.var 7) (.c (.int 1))) .nil))))) (.b1 .repr (.var 8))) (.cons (.ret (.c (.bl false))) .nil) .nil) .nil)))) .nil)))))) (.cons (.ret (.c (.bl true))) .nil)))
def fn_law : Fn := ⟨1, 11, b_law⟩
def d_law : Df := ⟨5035, "law", ["_law_script", "_law_m", "_law_turn_here", "_law_panel", "_law_back_here", "_law_some", "_law_k", "_law_pair", "_law_due", "_law_number", "_law_hand_here"], ["_law_script"], fn_law⟩
def dfs : List Df := [d_is_whole, d_is_dial, d_is_counter, d_size_in, d_text_in, d_is_text, d_number_in, d_common, d_inverse, d_number_shown, d_round_in, d_serial_with, d_least_times, d_is_plain, d_behind, d_ladder_in, d_answer_of, d_first_hit, d_is_hand, d_need_panel, d_hand_text, d_shown, d_turn_of, d_comes_back, d_first_with, d_meet, d__law_begun, d__law_next, d__law_counter, d__law_size, d__law_text, d__law_hand, d__law_text_of, d__law_turn, d__law_back, d_law]
def cfg : Cfg := ⟨[(71, ("is_whole" : Str), 3), (72, ("is_dial" : Str), 1), (74, ("is_counter" : Str), 1), (75, ("size_in" : Str), 1), (77, ("text_in" : Str), 2), (79, ("is_text" : Str), 2), (80, ("number_in" : Str), 2), (276, ("common" : Str), 2), (277, ("inverse" : Str), 2), (278, ("number_shown" : Str), 4), (280, ("round_in" : Str), 2), (283, ("serial_with" : Str), 4), (174, ("least_times" : Str), 2), (175, ("is_plain" : Str), 1), (176, ("behind" : Str), 1), (177, ("ladder_in" : Str), 1), (179, ("answer_of" : Str), 1), (185, ("first_hit" : Str), 4), (209, ("is_hand" : Str), 1), (210, ("need_panel" : Str), 1), (211, ("hand_text" : Str), 2), (212, ("shown" : Str), 2), (213, ("turn_of" : Str), 1), (214, ("comes_back" : Str), 1), (215, ("first_with" : Str), 2), (216, ("meet" : Str), 3), (5026, ("_law_begun" : Str), 1), (5027, ("_law_next" : Str), 2), (5028, ("_law_counter" : Str), 2), (5029, ("_law_size" : Str), 1), (5030, ("_law_text" : Str), 2), (5031, ("_law_hand" : Str), 1), (5032, ("_law_text_of" : Str), 2), (5033, ("_law_turn" : Str), 1), (5034, ("_law_back" : Str), 2), (5035, ("law" : Str), 1)], [(22, ("MOST_SIGNS" : Str), Lib.counters.k_MOST_SIGNS), (23, ("PERCENT" : Str), Lib.counters.k_PERCENT), (21, ("MOST_DIALS" : Str), Lib.counters.k_MOST_DIALS), (67, ("MOST_STEP" : Str), Lib.runs.k_MOST_STEP), (48, ("MOST_EVERY" : Str), Lib.panels.k_MOST_EVERY), (49, ("LAST_LABEL" : Str), Lib.panels.k_LAST_LABEL)], ["abs", "all", "bool", "int", "isinstance", "len", "list", "min", "ord", "range", "repr", "str", "tuple", "zip"], [(12, ("OutOfPlace" : Str), [("text" : Str)], false)]⟩
def top (i : Nat) : Stmt := PySem.Challenge.pw_labelhouse_k13_whole_panels.main.body.getD i (.Pass ⟨0, 0, 0, 0⟩)
def sts : List Stmt := [top 6, top 7, top 8, top 9, top 10, top 11, top 12, top 15, top 16, top 17, top 18, top 19, top 21, top 22, top 23, top 24, top 25, top 26, top 30, top 31, top 32, top 33, top 34, top 35, top 36, top 37, top 39, top 40, top 41, top 42, top 43, top 44, top 45, top 46, top 47, top 48]
theorem fit_is_whole : FitD cfg d_is_whole (top 6) := ⟨⟨rfl, rfl, rfl, by decide +kernel, rfl, by decide +kernel, by decide +kernel⟩, rfl, rfl, by decide +kernel⟩
theorem fit_is_dial : FitD cfg d_is_dial (top 7) := ⟨⟨rfl, rfl, rfl, by decide +kernel, rfl, by decide +kernel, by decide +kernel⟩, rfl, rfl, by decide +kernel⟩
theorem fit_is_counter : FitD cfg d_is_counter (top 8) := ⟨⟨rfl, rfl, rfl, by decide +kernel, rfl, by decide +kernel, by decide +kernel⟩, rfl, rfl, by decide +kernel⟩
theorem fit_size_in : FitD cfg d_size_in (top 9) := ⟨⟨rfl, rfl, rfl, by decide +kernel, rfl, by decide +kernel, by decide +kernel⟩, rfl, rfl, by decide +kernel⟩
theorem fit_text_in : FitD cfg d_text_in (top 10) := ⟨⟨rfl, rfl, rfl, by decide +kernel, rfl, by decide +kernel, by decide +kernel⟩, rfl, rfl, by decide +kernel⟩
theorem fit_is_text : FitD cfg d_is_text (top 11) := ⟨⟨rfl, rfl, rfl, by decide +kernel, rfl, by decide +kernel, by decide +kernel⟩, rfl, rfl, by decide +kernel⟩
theorem fit_number_in : FitD cfg d_number_in (top 12) := ⟨⟨rfl, rfl, rfl, by decide +kernel, rfl, by decide +kernel, by decide +kernel⟩, rfl, rfl, by decide +kernel⟩
theorem fit_common : FitD cfg d_common (top 15) := ⟨⟨rfl, rfl, rfl, by decide +kernel, rfl, by decide +kernel, by decide +kernel⟩, rfl, rfl, by decide +kernel⟩
theorem fit_inverse : FitD cfg d_inverse (top 16) := ⟨⟨rfl, rfl, rfl, by decide +kernel, rfl, by decide +kernel, by decide +kernel⟩, rfl, rfl, by decide +kernel⟩
theorem fit_number_shown : FitD cfg d_number_shown (top 17) := ⟨⟨rfl, rfl, rfl, by decide +kernel, rfl, by decide +kernel, by decide +kernel⟩, rfl, rfl, by decide +kernel⟩
theorem fit_round_in : FitD cfg d_round_in (top 18) := ⟨⟨rfl, rfl, rfl, by decide +kernel, rfl, by decide +kernel, by decide +kernel⟩, rfl, rfl, by decide +kernel⟩
theorem fit_serial_with : FitD cfg d_serial_with (top 19) := ⟨⟨rfl, rfl, rfl, by decide +kernel, rfl, by decide +kernel, by decide +kernel⟩, rfl, rfl, by decide +kernel⟩
theorem fit_least_times : FitD cfg d_least_times (top 21) := ⟨⟨rfl, rfl, rfl, by decide +kernel, rfl, by decide +kernel, by decide +kernel⟩, rfl, rfl, by decide +kernel⟩
theorem fit_is_plain : FitD cfg d_is_plain (top 22) := ⟨⟨rfl, rfl, rfl, by decide +kernel, rfl, by decide +kernel, by decide +kernel⟩, rfl, rfl, by decide +kernel⟩
theorem fit_behind : FitD cfg d_behind (top 23) := ⟨⟨rfl, rfl, rfl, by decide +kernel, rfl, by decide +kernel, by decide +kernel⟩, rfl, rfl, by decide +kernel⟩
theorem fit_ladder_in : FitD cfg d_ladder_in (top 24) := ⟨⟨rfl, rfl, rfl, by decide +kernel, rfl, by decide +kernel, by decide +kernel⟩, rfl, rfl, by decide +kernel⟩
theorem fit_answer_of : FitD cfg d_answer_of (top 25) := ⟨⟨rfl, rfl, rfl, by decide +kernel, rfl, by decide +kernel, by decide +kernel⟩, rfl, rfl, by decide +kernel⟩
theorem fit_first_hit : FitD cfg d_first_hit (top 26) := ⟨⟨rfl, rfl, rfl, by decide +kernel, rfl, by decide +kernel, by decide +kernel⟩, rfl, rfl, by decide +kernel⟩
theorem fit_is_hand : FitD cfg d_is_hand (top 30) := ⟨⟨rfl, rfl, rfl, by decide +kernel, rfl, by decide +kernel, by decide +kernel⟩, rfl, rfl, by decide +kernel⟩
theorem fit_need_panel : FitD cfg d_need_panel (top 31) := ⟨⟨rfl, rfl, rfl, by decide +kernel, rfl, by decide +kernel, by decide +kernel⟩, rfl, rfl, by decide +kernel⟩
theorem fit_hand_text : FitD cfg d_hand_text (top 32) := ⟨⟨rfl, rfl, rfl, by decide +kernel, rfl, by decide +kernel, by decide +kernel⟩, rfl, rfl, by decide +kernel⟩
theorem fit_shown : FitD cfg d_shown (top 33) := ⟨⟨rfl, rfl, rfl, by decide +kernel, rfl, by decide +kernel, by decide +kernel⟩, rfl, rfl, by decide +kernel⟩
theorem fit_turn_of : FitD cfg d_turn_of (top 34) := ⟨⟨rfl, rfl, rfl, by decide +kernel, rfl, by decide +kernel, by decide +kernel⟩, rfl, rfl, by decide +kernel⟩
theorem fit_comes_back : FitD cfg d_comes_back (top 35) := ⟨⟨rfl, rfl, rfl, by decide +kernel, rfl, by decide +kernel, by decide +kernel⟩, rfl, rfl, by decide +kernel⟩
theorem fit_first_with : FitD cfg d_first_with (top 36) := ⟨⟨rfl, rfl, rfl, by decide +kernel, rfl, by decide +kernel, by decide +kernel⟩, rfl, rfl, by decide +kernel⟩
theorem fit_meet : FitD cfg d_meet (top 37) := ⟨⟨rfl, rfl, rfl, by decide +kernel, rfl, by decide +kernel, by decide +kernel⟩, rfl, rfl, by decide +kernel⟩
theorem fit__law_begun : FitD cfg d__law_begun (top 39) := ⟨⟨rfl, rfl, rfl, by decide +kernel, rfl, by decide +kernel, by decide +kernel⟩, rfl, rfl, by decide +kernel⟩
theorem fit__law_next : FitD cfg d__law_next (top 40) := ⟨⟨rfl, rfl, rfl, by decide +kernel, rfl, by decide +kernel, by decide +kernel⟩, rfl, rfl, by decide +kernel⟩
theorem fit__law_counter : FitD cfg d__law_counter (top 41) := ⟨⟨rfl, rfl, rfl, by decide +kernel, rfl, by decide +kernel, by decide +kernel⟩, rfl, rfl, by decide +kernel⟩
theorem fit__law_size : FitD cfg d__law_size (top 42) := ⟨⟨rfl, rfl, rfl, by decide +kernel, rfl, by decide +kernel, by decide +kernel⟩, rfl, rfl, by decide +kernel⟩
theorem fit__law_text : FitD cfg d__law_text (top 43) := ⟨⟨rfl, rfl, rfl, by decide +kernel, rfl, by decide +kernel, by decide +kernel⟩, rfl, rfl, by decide +kernel⟩
theorem fit__law_hand : FitD cfg d__law_hand (top 44) := ⟨⟨rfl, rfl, rfl, by decide +kernel, rfl, by decide +kernel, by decide +kernel⟩, rfl, rfl, by decide +kernel⟩
theorem fit__law_text_of : FitD cfg d__law_text_of (top 45) := ⟨⟨rfl, rfl, rfl, by decide +kernel, rfl, by decide +kernel, by decide +kernel⟩, rfl, rfl, by decide +kernel⟩
theorem fit__law_turn : FitD cfg d__law_turn (top 46) := ⟨⟨rfl, rfl, rfl, by decide +kernel, rfl, by decide +kernel, by decide +kernel⟩, rfl, rfl, by decide +kernel⟩
theorem fit__law_back : FitD cfg d__law_back (top 47) := ⟨⟨rfl, rfl, rfl, by decide +kernel, rfl, by decide +kernel, by decide +kernel⟩, rfl, rfl, by decide +kernel⟩
theorem fit_law : FitD cfg d_law (top 48) := ⟨⟨rfl, rfl, rfl, by decide +kernel, rfl, by decide +kernel, by decide +kernel⟩, rfl, rfl, by decide +kernel⟩
def e_is_whole : He.DefD := ⟨("is_whole", none), "is_whole", "is_whole", defArgs (top 6), defBody (top 6), defScope (top 6), [], []⟩
def e_is_dial : He.DefD := ⟨("is_dial", none), "is_dial", "is_dial", defArgs (top 7), defBody (top 7), defScope (top 7), [], []⟩
def e_is_counter : He.DefD := ⟨("is_counter", none), "is_counter", "is_counter", defArgs (top 8), defBody (top 8), defScope (top 8), [], []⟩
def e_size_in : He.DefD := ⟨("size_in", none), "size_in", "size_in", defArgs (top 9), defBody (top 9), defScope (top 9), [], []⟩
def e_text_in : He.DefD := ⟨("text_in", none), "text_in", "text_in", defArgs (top 10), defBody (top 10), defScope (top 10), [], []⟩
def e_is_text : He.DefD := ⟨("is_text", none), "is_text", "is_text", defArgs (top 11), defBody (top 11), defScope (top 11), [], []⟩
def e_number_in : He.DefD := ⟨("number_in", none), "number_in", "number_in", defArgs (top 12), defBody (top 12), defScope (top 12), [], []⟩
def e_common : He.DefD := ⟨("common", none), "common", "common", defArgs (top 15), defBody (top 15), defScope (top 15), [], []⟩
def e_inverse : He.DefD := ⟨("inverse", none), "inverse", "inverse", defArgs (top 16), defBody (top 16), defScope (top 16), [], []⟩
def e_number_shown : He.DefD := ⟨("number_shown", none), "number_shown", "number_shown", defArgs (top 17), defBody (top 17), defScope (top 17), [], []⟩
def e_round_in : He.DefD := ⟨("round_in", none), "round_in", "round_in", defArgs (top 18), defBody (top 18), defScope (top 18), [], []⟩
def e_serial_with : He.DefD := ⟨("serial_with", none), "serial_with", "serial_with", defArgs (top 19), defBody (top 19), defScope (top 19), [], []⟩
def e_least_times : He.DefD := ⟨("least_times", none), "least_times", "least_times", defArgs (top 21), defBody (top 21), defScope (top 21), [], []⟩
def e_is_plain : He.DefD := ⟨("is_plain", none), "is_plain", "is_plain", defArgs (top 22), defBody (top 22), defScope (top 22), [], []⟩
def e_behind : He.DefD := ⟨("behind", none), "behind", "behind", defArgs (top 23), defBody (top 23), defScope (top 23), [], []⟩
def e_ladder_in : He.DefD := ⟨("ladder_in", none), "ladder_in", "ladder_in", defArgs (top 24), defBody (top 24), defScope (top 24), [], []⟩
def e_answer_of : He.DefD := ⟨("answer_of", none), "answer_of", "answer_of", defArgs (top 25), defBody (top 25), defScope (top 25), [], []⟩
def e_first_hit : He.DefD := ⟨("first_hit", none), "first_hit", "first_hit", defArgs (top 26), defBody (top 26), defScope (top 26), [], []⟩
def e_is_hand : He.DefD := ⟨("is_hand", none), "is_hand", "is_hand", defArgs (top 30), defBody (top 30), defScope (top 30), [], []⟩
def e_need_panel : He.DefD := ⟨("need_panel", none), "need_panel", "need_panel", defArgs (top 31), defBody (top 31), defScope (top 31), [], []⟩
def e_hand_text : He.DefD := ⟨("hand_text", none), "hand_text", "hand_text", defArgs (top 32), defBody (top 32), defScope (top 32), [], []⟩
def e_shown : He.DefD := ⟨("shown", none), "shown", "shown", defArgs (top 33), defBody (top 33), defScope (top 33), [], []⟩
def e_turn_of : He.DefD := ⟨("turn_of", none), "turn_of", "turn_of", defArgs (top 34), defBody (top 34), defScope (top 34), [], []⟩
def e_comes_back : He.DefD := ⟨("comes_back", none), "comes_back", "comes_back", defArgs (top 35), defBody (top 35), defScope (top 35), [], []⟩
def e_first_with : He.DefD := ⟨("first_with", none), "first_with", "first_with", defArgs (top 36), defBody (top 36), defScope (top 36), [], []⟩
def e_meet : He.DefD := ⟨("meet", none), "meet", "meet", defArgs (top 37), defBody (top 37), defScope (top 37), [], []⟩
def e__law_begun : He.DefD := ⟨("_law_begun", none), "_law_begun", "_law_begun", defArgs (top 39), defBody (top 39), defScope (top 39), [], []⟩
def e__law_next : He.DefD := ⟨("_law_next", none), "_law_next", "_law_next", defArgs (top 40), defBody (top 40), defScope (top 40), [], []⟩
def e__law_counter : He.DefD := ⟨("_law_counter", none), "_law_counter", "_law_counter", defArgs (top 41), defBody (top 41), defScope (top 41), [], []⟩
def e__law_size : He.DefD := ⟨("_law_size", none), "_law_size", "_law_size", defArgs (top 42), defBody (top 42), defScope (top 42), [], []⟩
def e__law_text : He.DefD := ⟨("_law_text", none), "_law_text", "_law_text", defArgs (top 43), defBody (top 43), defScope (top 43), [], []⟩
def e__law_hand : He.DefD := ⟨("_law_hand", none), "_law_hand", "_law_hand", defArgs (top 44), defBody (top 44), defScope (top 44), [], []⟩
def e__law_text_of : He.DefD := ⟨("_law_text_of", none), "_law_text_of", "_law_text_of", defArgs (top 45), defBody (top 45), defScope (top 45), [], []⟩
def e__law_turn : He.DefD := ⟨("_law_turn", none), "_law_turn", "_law_turn", defArgs (top 46), defBody (top 46), defScope (top 46), [], []⟩
def e__law_back : He.DefD := ⟨("_law_back", none), "_law_back", "_law_back", defArgs (top 47), defBody (top 47), defScope (top 47), [], []⟩
def e_law : He.DefD := ⟨("law", none), "law", "law", defArgs (top 48), defBody (top 48), defScope (top 48), [], []⟩
def fn : List He.DefD := [e_is_whole, e_is_dial, e_is_counter, e_size_in, e_text_in, e_is_text, e_number_in, e_common, e_inverse, e_number_shown, e_round_in, e_serial_with, e_least_times, e_is_plain, e_behind, e_ladder_in, e_answer_of, e_first_hit, e_is_hand, e_need_panel, e_hand_text, e_shown, e_turn_of, e_comes_back, e_first_with, e_meet, e__law_begun, e__law_next, e__law_counter, e__law_size, e__law_text, e__law_hand, e__law_text_of, e__law_turn, e__law_back, e_law]
def fa : List He.Fa := [.glo "is_whole", .glo "is_dial", .glo "is_counter", .glo "size_in", .glo "text_in", .glo "is_text", .glo "number_in", .glo "common", .glo "inverse", .glo "number_shown", .glo "round_in", .glo "serial_with", .glo "least_times", .glo "is_plain", .glo "behind", .glo "ladder_in", .glo "answer_of", .glo "first_hit", .glo "is_hand", .glo "need_panel", .glo "hand_text", .glo "shown", .glo "turn_of", .glo "comes_back", .glo "first_with", .glo "meet", .glo "_law_begun", .glo "_law_next", .glo "_law_counter", .glo "_law_size", .glo "_law_text", .glo "_law_hand", .glo "_law_text_of", .glo "_law_turn", .glo "_law_back", .glo "law", .free "abs", .free "all", .free "bool", .free "int", .free "isinstance", .free "len", .free "list", .free "min", .free "ord", .free "range", .free "repr", .free "str", .free "tuple", .free "zip", .int "MOST_SIGNS" 36, .int "PERCENT" 37, .int "MOST_DIALS" 12, .int "MOST_STEP" 1000000000000000000, .int "MOST_EVERY" 1000000, .int "LAST_LABEL" 10000000000000000000000000000000000000000]
abbrev Rw : PySem.W.OpenRow := PySem.W.OpenLaw.row PySem.Challenge.rw_labelhouse_k13_whole_panels
def ec_OutOfPlace : EC := ⟨12, "OutOfPlace", ["text"], false, bfV, defArgs (initOf (top 1))⟩
theorem ecok_OutOfPlace : EcOk ec_OutOfPlace := ⟨bfV_ok, by decide +kernel, by decide, fun fd h1 h2 us hl => by
  obtain ⟨n1, n2, n3, n4, n5, n6, n7, n8, n9, n10, n11, n12, n13, n14, n15⟩ := fd
  have e1 : n3 = defArgs (initOf (top 1)) := h1
  have e2 : n8 = .none := h2
  subst e1 e2
  match us, hl with
  | [_, _], _ => rfl⟩
def ecs : List EC := [ec_OutOfPlace]
theorem ecs_ok : ∀ e ∈ ecs, EcOk e := by
  intro e he
  simp only [ecs, List.mem_cons, List.not_mem_nil, or_false] at he
  rcases he with rfl
  · exact ecok_OutOfPlace
abbrev fl : Str := (PySem.Challenge.rw_labelhouse_k13_whole_panels).prog.main.file
abbrev hk : PySem.W.Hook := hookX 4 fl fa fn ecs
def ob (s : PySem.W.SharedT) : AlX := obsXG 4 fl fa fn ecs (HandSHeadRun.getT s)
theorem ob_eq (s : PySem.W.SharedT) : ob s = hk.obs s.abs := obsXG_eq (HandSHeadRun.getT_eq s)
def loose : List Str := (["OutOfPlace", "MOST_DIALS", "MOST_SIGNS", "PERCENT", "is_whole", "is_dial", "is_counter", "size_in", "text_in", "is_text", "number_in", "MOST_STEP", "common", "inverse", "number_shown", "round_in", "serial_with", "least_times", "is_plain", "behind"] : List Str) ++ (["ladder_in", "answer_of", "first_hit", "MOST_EVERY", "LAST_LABEL", "is_hand", "need_panel", "hand_text", "shown", "turn_of", "comes_back", "first_with", "meet", "_law_begun", "_law_next", "_law_counter", "_law_size", "_law_text", "_law_hand", "_law_text_of"] : List Str) ++ (["_law_turn", "_law_back"] : List Str)
theorem run (w : World) : HandSHeadRun.RunEq Rw (PySem.W.view Rw.prog [48]) hk ob 2000 loose w := by
  intro os
  kernel_rfl
section
variable {K : PySem.W.Frag} {h : Heap} {mg : Str → Option Value}
theorem t_is_whole (X : K.In h) (G : h.Ns mainGlobals mg) (c : He.SaysD fa fn K) : ∃ a fd, Told K mg d_is_whole (top 6) a fd := by
  obtain ⟨fd, F⟩ := c.def_ 0 (d := e_is_whole) rfl
  exact ⟨_, fd, F, He.glo_ok X G (c.fact 0 (f := .glo "is_whole") rfl), F.bindsN fun _ _ _ _ _ _ us hl => match us, hl with | [_, _, _], _ => rfl⟩
theorem t_is_dial (X : K.In h) (G : h.Ns mainGlobals mg) (c : He.SaysD fa fn K) : ∃ a fd, Told K mg d_is_dial (top 7) a fd := by
  obtain ⟨fd, F⟩ := c.def_ 1 (d := e_is_dial) rfl
  exact ⟨_, fd, F, He.glo_ok X G (c.fact 1 (f := .glo "is_dial") rfl), F.bindsN fun _ _ _ _ _ _ us hl => match us, hl with | [_], _ => rfl⟩
theorem t_is_counter (X : K.In h) (G : h.Ns mainGlobals mg) (c : He.SaysD fa fn K) : ∃ a fd, Told K mg d_is_counter (top 8) a fd := by
  obtain ⟨fd, F⟩ := c.def_ 2 (d := e_is_counter) rfl
  exact ⟨_, fd, F, He.glo_ok X G (c.fact 2 (f := .glo "is_counter") rfl), F.bindsN fun _ _ _ _ _ _ us hl => match us, hl with | [_], _ => rfl⟩
theorem t_size_in (X : K.In h) (G : h.Ns mainGlobals mg) (c : He.SaysD fa fn K) : ∃ a fd, Told K mg d_size_in (top 9) a fd := by
  obtain ⟨fd, F⟩ := c.def_ 3 (d := e_size_in) rfl
  exact ⟨_, fd, F, He.glo_ok X G (c.fact 3 (f := .glo "size_in") rfl), F.bindsN fun _ _ _ _ _ _ us hl => match us, hl with | [_], _ => rfl⟩
theorem t_text_in (X : K.In h) (G : h.Ns mainGlobals mg) (c : He.SaysD fa fn K) : ∃ a fd, Told K mg d_text_in (top 10) a fd := by
  obtain ⟨fd, F⟩ := c.def_ 4 (d := e_text_in) rfl
  exact ⟨_, fd, F, He.glo_ok X G (c.fact 4 (f := .glo "text_in") rfl), F.bindsN fun _ _ _ _ _ _ us hl => match us, hl with | [_, _], _ => rfl⟩
theorem t_is_text (X : K.In h) (G : h.Ns mainGlobals mg) (c : He.SaysD fa fn K) : ∃ a fd, Told K mg d_is_text (top 11) a fd := by
  obtain ⟨fd, F⟩ := c.def_ 5 (d := e_is_text) rfl
  exact ⟨_, fd, F, He.glo_ok X G (c.fact 5 (f := .glo "is_text") rfl), F.bindsN fun _ _ _ _ _ _ us hl => match us, hl with | [_, _], _ => rfl⟩
theorem t_number_in (X : K.In h) (G : h.Ns mainGlobals mg) (c : He.SaysD fa fn K) : ∃ a fd, Told K mg d_number_in (top 12) a fd := by
  obtain ⟨fd, F⟩ := c.def_ 6 (d := e_number_in) rfl
  exact ⟨_, fd, F, He.glo_ok X G (c.fact 6 (f := .glo "number_in") rfl), F.bindsN fun _ _ _ _ _ _ us hl => match us, hl with | [_, _], _ => rfl⟩
theorem t_common (X : K.In h) (G : h.Ns mainGlobals mg) (c : He.SaysD fa fn K) : ∃ a fd, Told K mg d_common (top 15) a fd := by
  obtain ⟨fd, F⟩ := c.def_ 7 (d := e_common) rfl
  exact ⟨_, fd, F, He.glo_ok X G (c.fact 7 (f := .glo "common") rfl), F.bindsN fun _ _ _ _ _ _ us hl => match us, hl with | [_, _], _ => rfl⟩
theorem t_inverse (X : K.In h) (G : h.Ns mainGlobals mg) (c : He.SaysD fa fn K) : ∃ a fd, Told K mg d_inverse (top 16) a fd := by
  obtain ⟨fd, F⟩ := c.def_ 8 (d := e_inverse) rfl
  exact ⟨_, fd, F, He.glo_ok X G (c.fact 8 (f := .glo "inverse") rfl), F.bindsN fun _ _ _ _ _ _ us hl => match us, hl with | [_, _], _ => rfl⟩
theorem t_number_shown (X : K.In h) (G : h.Ns mainGlobals mg) (c : He.SaysD fa fn K) : ∃ a fd, Told K mg d_number_shown (top 17) a fd := by
  obtain ⟨fd, F⟩ := c.def_ 9 (d := e_number_shown) rfl
  exact ⟨_, fd, F, He.glo_ok X G (c.fact 9 (f := .glo "number_shown") rfl), F.bindsN fun _ _ _ _ _ _ us hl => match us, hl with | [_, _, _, _], _ => rfl⟩
theorem t_round_in (X : K.In h) (G : h.Ns mainGlobals mg) (c : He.SaysD fa fn K) : ∃ a fd, Told K mg d_round_in (top 18) a fd := by
  obtain ⟨fd, F⟩ := c.def_ 10 (d := e_round_in) rfl
  exact ⟨_, fd, F, He.glo_ok X G (c.fact 10 (f := .glo "round_in") rfl), F.bindsN fun _ _ _ _ _ _ us hl => match us, hl with | [_, _], _ => rfl⟩
theorem t_serial_with (X : K.In h) (G : h.Ns mainGlobals mg) (c : He.SaysD fa fn K) : ∃ a fd, Told K mg d_serial_with (top 19) a fd := by
  obtain ⟨fd, F⟩ := c.def_ 11 (d := e_serial_with) rfl
  exact ⟨_, fd, F, He.glo_ok X G (c.fact 11 (f := .glo "serial_with") rfl), F.bindsN fun _ _ _ _ _ _ us hl => match us, hl with | [_, _, _, _], _ => rfl⟩
theorem t_least_times (X : K.In h) (G : h.Ns mainGlobals mg) (c : He.SaysD fa fn K) : ∃ a fd, Told K mg d_least_times (top 21) a fd := by
  obtain ⟨fd, F⟩ := c.def_ 12 (d := e_least_times) rfl
  exact ⟨_, fd, F, He.glo_ok X G (c.fact 12 (f := .glo "least_times") rfl), F.bindsN fun _ _ _ _ _ _ us hl => match us, hl with | [_, _], _ => rfl⟩
theorem t_is_plain (X : K.In h) (G : h.Ns mainGlobals mg) (c : He.SaysD fa fn K) : ∃ a fd, Told K mg d_is_plain (top 22) a fd := by
  obtain ⟨fd, F⟩ := c.def_ 13 (d := e_is_plain) rfl
  exact ⟨_, fd, F, He.glo_ok X G (c.fact 13 (f := .glo "is_plain") rfl), F.bindsN fun _ _ _ _ _ _ us hl => match us, hl with | [_], _ => rfl⟩
theorem t_behind (X : K.In h) (G : h.Ns mainGlobals mg) (c : He.SaysD fa fn K) : ∃ a fd, Told K mg d_behind (top 23) a fd := by
  obtain ⟨fd, F⟩ := c.def_ 14 (d := e_behind) rfl
  exact ⟨_, fd, F, He.glo_ok X G (c.fact 14 (f := .glo "behind") rfl), F.bindsN fun _ _ _ _ _ _ us hl => match us, hl with | [_], _ => rfl⟩
theorem t_ladder_in (X : K.In h) (G : h.Ns mainGlobals mg) (c : He.SaysD fa fn K) : ∃ a fd, Told K mg d_ladder_in (top 24) a fd := by
  obtain ⟨fd, F⟩ := c.def_ 15 (d := e_ladder_in) rfl
  exact ⟨_, fd, F, He.glo_ok X G (c.fact 15 (f := .glo "ladder_in") rfl), F.bindsN fun _ _ _ _ _ _ us hl => match us, hl with | [_], _ => rfl⟩
theorem t_answer_of (X : K.In h) (G : h.Ns mainGlobals mg) (c : He.SaysD fa fn K) : ∃ a fd, Told K mg d_answer_of (top 25) a fd := by
  obtain ⟨fd, F⟩ := c.def_ 16 (d := e_answer_of) rfl
  exact ⟨_, fd, F, He.glo_ok X G (c.fact 16 (f := .glo "answer_of") rfl), F.bindsN fun _ _ _ _ _ _ us hl => match us, hl with | [_], _ => rfl⟩
theorem t_first_hit (X : K.In h) (G : h.Ns mainGlobals mg) (c : He.SaysD fa fn K) : ∃ a fd, Told K mg d_first_hit (top 26) a fd := by
  obtain ⟨fd, F⟩ := c.def_ 17 (d := e_first_hit) rfl
  exact ⟨_, fd, F, He.glo_ok X G (c.fact 17 (f := .glo "first_hit") rfl), F.bindsN fun _ _ _ _ _ _ us hl => match us, hl with | [_, _, _, _], _ => rfl⟩
theorem t_is_hand (X : K.In h) (G : h.Ns mainGlobals mg) (c : He.SaysD fa fn K) : ∃ a fd, Told K mg d_is_hand (top 30) a fd := by
  obtain ⟨fd, F⟩ := c.def_ 18 (d := e_is_hand) rfl
  exact ⟨_, fd, F, He.glo_ok X G (c.fact 18 (f := .glo "is_hand") rfl), F.bindsN fun _ _ _ _ _ _ us hl => match us, hl with | [_], _ => rfl⟩
theorem t_need_panel (X : K.In h) (G : h.Ns mainGlobals mg) (c : He.SaysD fa fn K) : ∃ a fd, Told K mg d_need_panel (top 31) a fd := by
  obtain ⟨fd, F⟩ := c.def_ 19 (d := e_need_panel) rfl
  exact ⟨_, fd, F, He.glo_ok X G (c.fact 19 (f := .glo "need_panel") rfl), F.bindsN fun _ _ _ _ _ _ us hl => match us, hl with | [_], _ => rfl⟩
theorem t_hand_text (X : K.In h) (G : h.Ns mainGlobals mg) (c : He.SaysD fa fn K) : ∃ a fd, Told K mg d_hand_text (top 32) a fd := by
  obtain ⟨fd, F⟩ := c.def_ 20 (d := e_hand_text) rfl
  exact ⟨_, fd, F, He.glo_ok X G (c.fact 20 (f := .glo "hand_text") rfl), F.bindsN fun _ _ _ _ _ _ us hl => match us, hl with | [_, _], _ => rfl⟩
theorem t_shown (X : K.In h) (G : h.Ns mainGlobals mg) (c : He.SaysD fa fn K) : ∃ a fd, Told K mg d_shown (top 33) a fd := by
  obtain ⟨fd, F⟩ := c.def_ 21 (d := e_shown) rfl
  exact ⟨_, fd, F, He.glo_ok X G (c.fact 21 (f := .glo "shown") rfl), F.bindsN fun _ _ _ _ _ _ us hl => match us, hl with | [_, _], _ => rfl⟩
theorem t_turn_of (X : K.In h) (G : h.Ns mainGlobals mg) (c : He.SaysD fa fn K) : ∃ a fd, Told K mg d_turn_of (top 34) a fd := by
  obtain ⟨fd, F⟩ := c.def_ 22 (d := e_turn_of) rfl
  exact ⟨_, fd, F, He.glo_ok X G (c.fact 22 (f := .glo "turn_of") rfl), F.bindsN fun _ _ _ _ _ _ us hl => match us, hl with | [_], _ => rfl⟩
theorem t_comes_back (X : K.In h) (G : h.Ns mainGlobals mg) (c : He.SaysD fa fn K) : ∃ a fd, Told K mg d_comes_back (top 35) a fd := by
  obtain ⟨fd, F⟩ := c.def_ 23 (d := e_comes_back) rfl
  exact ⟨_, fd, F, He.glo_ok X G (c.fact 23 (f := .glo "comes_back") rfl), F.bindsN fun _ _ _ _ _ _ us hl => match us, hl with | [_], _ => rfl⟩
theorem t_first_with (X : K.In h) (G : h.Ns mainGlobals mg) (c : He.SaysD fa fn K) : ∃ a fd, Told K mg d_first_with (top 36) a fd := by
  obtain ⟨fd, F⟩ := c.def_ 24 (d := e_first_with) rfl
  exact ⟨_, fd, F, He.glo_ok X G (c.fact 24 (f := .glo "first_with") rfl), F.bindsN fun _ _ _ _ _ _ us hl => match us, hl with | [_, _], _ => rfl⟩
theorem t_meet (X : K.In h) (G : h.Ns mainGlobals mg) (c : He.SaysD fa fn K) : ∃ a fd, Told K mg d_meet (top 37) a fd := by
  obtain ⟨fd, F⟩ := c.def_ 25 (d := e_meet) rfl
  exact ⟨_, fd, F, He.glo_ok X G (c.fact 25 (f := .glo "meet") rfl), F.bindsN fun _ _ _ _ _ _ us hl => match us, hl with | [_, _, _], _ => rfl⟩
theorem t__law_begun (X : K.In h) (G : h.Ns mainGlobals mg) (c : He.SaysD fa fn K) : ∃ a fd, Told K mg d__law_begun (top 39) a fd := by
  obtain ⟨fd, F⟩ := c.def_ 26 (d := e__law_begun) rfl
  exact ⟨_, fd, F, He.glo_ok X G (c.fact 26 (f := .glo "_law_begun") rfl), F.bindsN fun _ _ _ _ _ _ us hl => match us, hl with | [_], _ => rfl⟩
theorem t__law_next (X : K.In h) (G : h.Ns mainGlobals mg) (c : He.SaysD fa fn K) : ∃ a fd, Told K mg d__law_next (top 40) a fd := by
  obtain ⟨fd, F⟩ := c.def_ 27 (d := e__law_next) rfl
  exact ⟨_, fd, F, He.glo_ok X G (c.fact 27 (f := .glo "_law_next") rfl), F.bindsN fun _ _ _ _ _ _ us hl => match us, hl with | [_, _], _ => rfl⟩
theorem t__law_counter (X : K.In h) (G : h.Ns mainGlobals mg) (c : He.SaysD fa fn K) : ∃ a fd, Told K mg d__law_counter (top 41) a fd := by
  obtain ⟨fd, F⟩ := c.def_ 28 (d := e__law_counter) rfl
  exact ⟨_, fd, F, He.glo_ok X G (c.fact 28 (f := .glo "_law_counter") rfl), F.bindsN fun _ _ _ _ _ _ us hl => match us, hl with | [_, _], _ => rfl⟩
theorem t__law_size (X : K.In h) (G : h.Ns mainGlobals mg) (c : He.SaysD fa fn K) : ∃ a fd, Told K mg d__law_size (top 42) a fd := by
  obtain ⟨fd, F⟩ := c.def_ 29 (d := e__law_size) rfl
  exact ⟨_, fd, F, He.glo_ok X G (c.fact 29 (f := .glo "_law_size") rfl), F.bindsN fun _ _ _ _ _ _ us hl => match us, hl with | [_], _ => rfl⟩
theorem t__law_text (X : K.In h) (G : h.Ns mainGlobals mg) (c : He.SaysD fa fn K) : ∃ a fd, Told K mg d__law_text (top 43) a fd := by
  obtain ⟨fd, F⟩ := c.def_ 30 (d := e__law_text) rfl
  exact ⟨_, fd, F, He.glo_ok X G (c.fact 30 (f := .glo "_law_text") rfl), F.bindsN fun _ _ _ _ _ _ us hl => match us, hl with | [_, _], _ => rfl⟩
theorem t__law_hand (X : K.In h) (G : h.Ns mainGlobals mg) (c : He.SaysD fa fn K) : ∃ a fd, Told K mg d__law_hand (top 44) a fd := by
  obtain ⟨fd, F⟩ := c.def_ 31 (d := e__law_hand) rfl
  exact ⟨_, fd, F, He.glo_ok X G (c.fact 31 (f := .glo "_law_hand") rfl), F.bindsN fun _ _ _ _ _ _ us hl => match us, hl with | [_], _ => rfl⟩
theorem t__law_text_of (X : K.In h) (G : h.Ns mainGlobals mg) (c : He.SaysD fa fn K) : ∃ a fd, Told K mg d__law_text_of (top 45) a fd := by
  obtain ⟨fd, F⟩ := c.def_ 32 (d := e__law_text_of) rfl
  exact ⟨_, fd, F, He.glo_ok X G (c.fact 32 (f := .glo "_law_text_of") rfl), F.bindsN fun _ _ _ _ _ _ us hl => match us, hl with | [_, _], _ => rfl⟩
theorem t__law_turn (X : K.In h) (G : h.Ns mainGlobals mg) (c : He.SaysD fa fn K) : ∃ a fd, Told K mg d__law_turn (top 46) a fd := by
  obtain ⟨fd, F⟩ := c.def_ 33 (d := e__law_turn) rfl
  exact ⟨_, fd, F, He.glo_ok X G (c.fact 33 (f := .glo "_law_turn") rfl), F.bindsN fun _ _ _ _ _ _ us hl => match us, hl with | [_], _ => rfl⟩
theorem t__law_back (X : K.In h) (G : h.Ns mainGlobals mg) (c : He.SaysD fa fn K) : ∃ a fd, Told K mg d__law_back (top 47) a fd := by
  obtain ⟨fd, F⟩ := c.def_ 34 (d := e__law_back) rfl
  exact ⟨_, fd, F, He.glo_ok X G (c.fact 34 (f := .glo "_law_back") rfl), F.bindsN fun _ _ _ _ _ _ us hl => match us, hl with | [_, _], _ => rfl⟩
theorem t_law (X : K.In h) (G : h.Ns mainGlobals mg) (c : He.SaysD fa fn K) : ∃ a fd, Told K mg d_law (top 48) a fd := by
  obtain ⟨fd, F⟩ := c.def_ 35 (d := e_law) rfl
  exact ⟨_, fd, F, He.glo_ok X G (c.fact 35 (f := .glo "law") rfl), F.bindsN fun _ _ _ _ _ _ us hl => match us, hl with | [_], _ => rfl⟩
theorem told (X : K.In h) (G : h.Ns mainGlobals mg) (c : He.SaysD fa fn K) : ∀ (f : Nat) (d : Df) (st : Stmt), dfs[f]? = some d → sts[f]? = some st → FitD cfg d st ∧ ∃ a fd, Told K mg d st a fd
  | 0, d, st, h1, h2 => by
    have e1 : d_is_whole = d := Option.some.inj h1
    have e2 : top 6 = st := Option.some.inj h2
    subst e1 e2
    exact ⟨fit_is_whole, t_is_whole X G c⟩
  | 1, d, st, h1, h2 => by
    have e1 : d_is_dial = d := Option.some.inj h1
    have e2 : top 7 = st := Option.some.inj h2
    subst e1 e2
    exact ⟨fit_is_dial, t_is_dial X G c⟩
  | 2, d, st, h1, h2 => by
    have e1 : d_is_counter = d := Option.some.inj h1
    have e2 : top 8 = st := Option.some.inj h2
    subst e1 e2
    exact ⟨fit_is_counter, t_is_counter X G c⟩
  | 3, d, st, h1, h2 => by
    have e1 : d_size_in = d := Option.some.inj h1
    have e2 : top 9 = st := Option.some.inj h2
    subst e1 e2
    exact ⟨fit_size_in, t_size_in X G c⟩
  | 4, d, st, h1, h2 => by
    have e1 : d_text_in = d := Option.some.inj h1
    have e2 : top 10 = st := Option.some.inj h2
    subst e1 e2
    exact ⟨fit_text_in, t_text_in X G c⟩
  | 5, d, st, h1, h2 => by
    have e1 : d_is_text = d := Option.some.inj h1
    have e2 : top 11 = st := Option.some.inj h2
    subst e1 e2
    exact ⟨fit_is_text, t_is_text X G c⟩
  | 6, d, st, h1, h2 => by
    have e1 : d_number_in = d := Option.some.inj h1
    have e2 : top 12 = st := Option.some.inj h2
    subst e1 e2
    exact ⟨fit_number_in, t_number_in X G c⟩
  | 7, d, st, h1, h2 => by
    have e1 : d_common = d := Option.some.inj h1
    have e2 : top 15 = st := Option.some.inj h2
    subst e1 e2
    exact ⟨fit_common, t_common X G c⟩
  | 8, d, st, h1, h2 => by
    have e1 : d_inverse = d := Option.some.inj h1
    have e2 : top 16 = st := Option.some.inj h2
    subst e1 e2
    exact ⟨fit_inverse, t_inverse X G c⟩
  | 9, d, st, h1, h2 => by
    have e1 : d_number_shown = d := Option.some.inj h1
    have e2 : top 17 = st := Option.some.inj h2
    subst e1 e2
    exact ⟨fit_number_shown, t_number_shown X G c⟩
  | 10, d, st, h1, h2 => by
    have e1 : d_round_in = d := Option.some.inj h1
    have e2 : top 18 = st := Option.some.inj h2
    subst e1 e2
    exact ⟨fit_round_in, t_round_in X G c⟩
  | 11, d, st, h1, h2 => by
    have e1 : d_serial_with = d := Option.some.inj h1
    have e2 : top 19 = st := Option.some.inj h2
    subst e1 e2
    exact ⟨fit_serial_with, t_serial_with X G c⟩
  | 12, d, st, h1, h2 => by
    have e1 : d_least_times = d := Option.some.inj h1
    have e2 : top 21 = st := Option.some.inj h2
    subst e1 e2
    exact ⟨fit_least_times, t_least_times X G c⟩
  | 13, d, st, h1, h2 => by
    have e1 : d_is_plain = d := Option.some.inj h1
    have e2 : top 22 = st := Option.some.inj h2
    subst e1 e2
    exact ⟨fit_is_plain, t_is_plain X G c⟩
  | 14, d, st, h1, h2 => by
    have e1 : d_behind = d := Option.some.inj h1
    have e2 : top 23 = st := Option.some.inj h2
    subst e1 e2
    exact ⟨fit_behind, t_behind X G c⟩
  | 15, d, st, h1, h2 => by
    have e1 : d_ladder_in = d := Option.some.inj h1
    have e2 : top 24 = st := Option.some.inj h2
    subst e1 e2
    exact ⟨fit_ladder_in, t_ladder_in X G c⟩
  | 16, d, st, h1, h2 => by
    have e1 : d_answer_of = d := Option.some.inj h1
    have e2 : top 25 = st := Option.some.inj h2
    subst e1 e2
    exact ⟨fit_answer_of, t_answer_of X G c⟩
  | 17, d, st, h1, h2 => by
    have e1 : d_first_hit = d := Option.some.inj h1
    have e2 : top 26 = st := Option.some.inj h2
    subst e1 e2
    exact ⟨fit_first_hit, t_first_hit X G c⟩
  | 18, d, st, h1, h2 => by
    have e1 : d_is_hand = d := Option.some.inj h1
    have e2 : top 30 = st := Option.some.inj h2
    subst e1 e2
    exact ⟨fit_is_hand, t_is_hand X G c⟩
  | 19, d, st, h1, h2 => by
    have e1 : d_need_panel = d := Option.some.inj h1
    have e2 : top 31 = st := Option.some.inj h2
    subst e1 e2
    exact ⟨fit_need_panel, t_need_panel X G c⟩
  | 20, d, st, h1, h2 => by
    have e1 : d_hand_text = d := Option.some.inj h1
    have e2 : top 32 = st := Option.some.inj h2
    subst e1 e2
    exact ⟨fit_hand_text, t_hand_text X G c⟩
  | 21, d, st, h1, h2 => by
    have e1 : d_shown = d := Option.some.inj h1
    have e2 : top 33 = st := Option.some.inj h2
    subst e1 e2
    exact ⟨fit_shown, t_shown X G c⟩
  | 22, d, st, h1, h2 => by
    have e1 : d_turn_of = d := Option.some.inj h1
    have e2 : top 34 = st := Option.some.inj h2
    subst e1 e2
    exact ⟨fit_turn_of, t_turn_of X G c⟩
  | 23, d, st, h1, h2 => by
    have e1 : d_comes_back = d := Option.some.inj h1
    have e2 : top 35 = st := Option.some.inj h2
    subst e1 e2
    exact ⟨fit_comes_back, t_comes_back X G c⟩
  | 24, d, st, h1, h2 => by
    have e1 : d_first_with = d := Option.some.inj h1
    have e2 : top 36 = st := Option.some.inj h2
    subst e1 e2
    exact ⟨fit_first_with, t_first_with X G c⟩
  | 25, d, st, h1, h2 => by
    have e1 : d_meet = d := Option.some.inj h1
    have e2 : top 37 = st := Option.some.inj h2
    subst e1 e2
    exact ⟨fit_meet, t_meet X G c⟩
  | 26, d, st, h1, h2 => by
    have e1 : d__law_begun = d := Option.some.inj h1
    have e2 : top 39 = st := Option.some.inj h2
    subst e1 e2
    exact ⟨fit__law_begun, t__law_begun X G c⟩
  | 27, d, st, h1, h2 => by
    have e1 : d__law_next = d := Option.some.inj h1
    have e2 : top 40 = st := Option.some.inj h2
    subst e1 e2
    exact ⟨fit__law_next, t__law_next X G c⟩
  | 28, d, st, h1, h2 => by
    have e1 : d__law_counter = d := Option.some.inj h1
    have e2 : top 41 = st := Option.some.inj h2
    subst e1 e2
    exact ⟨fit__law_counter, t__law_counter X G c⟩
  | 29, d, st, h1, h2 => by
    have e1 : d__law_size = d := Option.some.inj h1
    have e2 : top 42 = st := Option.some.inj h2
    subst e1 e2
    exact ⟨fit__law_size, t__law_size X G c⟩
  | 30, d, st, h1, h2 => by
    have e1 : d__law_text = d := Option.some.inj h1
    have e2 : top 43 = st := Option.some.inj h2
    subst e1 e2
    exact ⟨fit__law_text, t__law_text X G c⟩
  | 31, d, st, h1, h2 => by
    have e1 : d__law_hand = d := Option.some.inj h1
    have e2 : top 44 = st := Option.some.inj h2
    subst e1 e2
    exact ⟨fit__law_hand, t__law_hand X G c⟩
  | 32, d, st, h1, h2 => by
    have e1 : d__law_text_of = d := Option.some.inj h1
    have e2 : top 45 = st := Option.some.inj h2
    subst e1 e2
    exact ⟨fit__law_text_of, t__law_text_of X G c⟩
  | 33, d, st, h1, h2 => by
    have e1 : d__law_turn = d := Option.some.inj h1
    have e2 : top 46 = st := Option.some.inj h2
    subst e1 e2
    exact ⟨fit__law_turn, t__law_turn X G c⟩
  | 34, d, st, h1, h2 => by
    have e1 : d__law_back = d := Option.some.inj h1
    have e2 : top 47 = st := Option.some.inj h2
    subst e1 e2
    exact ⟨fit__law_back, t__law_back X G c⟩
  | 35, d, st, h1, h2 => by
    have e1 : d_law = d := Option.some.inj h1
    have e2 : top 48 = st := Option.some.inj h2
    subst e1 e2
    exact ⟨fit_law, t_law X G c⟩
  | n + 36, d, st, h1, h2 => by cases h1
theorem glbs_at (X : K.In h) (G : h.Ns mainGlobals mg) (c : He.SaysD fa fn K) : ∀ (j i : Nat) (x : Str) (d : D), cfg.glbs[j]? = some (i, x, d) → GlbOk K mg x d
  | 0, i, x, d, e => by
    cases e
    obtain ⟨t, m⟩ := He.int_ok X G (c.fact 50 (f := .int "MOST_SIGNS" 36) rfl)
    exact ⟨_, .int 36, m, ⟨t, rfl⟩, fun β H => by simp [Rel, Lib.counters.k_MOST_SIGNS]⟩
  | 1, i, x, d, e => by
    cases e
    obtain ⟨t, m⟩ := He.int_ok X G (c.fact 51 (f := .int "PERCENT" 37) rfl)
    exact ⟨_, .int 37, m, ⟨t, rfl⟩, fun β H => by simp [Rel, Lib.counters.k_PERCENT]⟩
  | 2, i, x, d, e => by
    cases e
    obtain ⟨t, m⟩ := He.int_ok X G (c.fact 52 (f := .int "MOST_DIALS" 12) rfl)
    exact ⟨_, .int 12, m, ⟨t, rfl⟩, fun β H => by simp [Rel, Lib.counters.k_MOST_DIALS]⟩
  | 3, i, x, d, e => by
    cases e
    obtain ⟨t, m⟩ := He.int_ok X G (c.fact 53 (f := .int "MOST_STEP" 1000000000000000000) rfl)
    exact ⟨_, .int 1000000000000000000, m, ⟨t, rfl⟩, fun β H => by simp [Rel, Lib.runs.k_MOST_STEP]⟩
  | 4, i, x, d, e => by
    cases e
    obtain ⟨t, m⟩ := He.int_ok X G (c.fact 54 (f := .int "MOST_EVERY" 1000000) rfl)
    exact ⟨_, .int 1000000, m, ⟨t, rfl⟩, fun β H => by simp [Rel, Lib.panels.k_MOST_EVERY]⟩
  | 5, i, x, d, e => by
    cases e
    obtain ⟨t, m⟩ := He.int_ok X G (c.fact 55 (f := .int "LAST_LABEL" 10000000000000000000000000000000000000000) rfl)
    exact ⟨_, .int 10000000000000000000000000000000000000000, m, ⟨t, rfl⟩, fun β H => by simp [Rel, Lib.panels.k_LAST_LABEL]⟩
  | n + 6, i, x, d, e => by cases e
theorem glbs (X : K.In h) (G : h.Ns mainGlobals mg) (c : He.SaysD fa fn K) : ∀ (i : Nat) (x : Str) (d : D), cfg.glbs.lookup i = some (x, d) → GlbOk K mg x d := by
  intro i x d e
  obtain ⟨j, ej⟩ := lookup_at e
  exact glbs_at X G c j i x d ej
theorem frees (X : K.In h) (G : h.Ns mainGlobals mg) (c : He.SaysD fa fn K) : ∀ x, x ∈ cfg.fr → mg x = none := by
  intro x hx
  simp only [cfg, List.mem_cons, List.not_mem_nil, or_false] at hx
  rcases hx with rfl | rfl | rfl | rfl | rfl | rfl | rfl | rfl | rfl | rfl | rfl | rfl | rfl | rfl
  · exact He.free_ok X G (c.fact 36 (f := .free "abs") rfl)
  · exact He.free_ok X G (c.fact 37 (f := .free "all") rfl)
  · exact He.free_ok X G (c.fact 38 (f := .free "bool") rfl)
  · exact He.free_ok X G (c.fact 39 (f := .free "int") rfl)
  · exact He.free_ok X G (c.fact 40 (f := .free "isinstance") rfl)
  · exact He.free_ok X G (c.fact 41 (f := .free "len") rfl)
  · exact He.free_ok X G (c.fact 42 (f := .free "list") rfl)
  · exact He.free_ok X G (c.fact 43 (f := .free "min") rfl)
  · exact He.free_ok X G (c.fact 44 (f := .free "ord") rfl)
  · exact He.free_ok X G (c.fact 45 (f := .free "range") rfl)
  · exact He.free_ok X G (c.fact 46 (f := .free "repr") rfl)
  · exact He.free_ok X G (c.fact 47 (f := .free "str") rfl)
  · exact He.free_ok X G (c.fact 48 (f := .free "tuple") rfl)
  · exact He.free_ok X G (c.fact 49 (f := .free "zip") rfl)
end
theorem facts {w : World} {K : PySem.W.Frag} {h : Heap} {mg : Str → Option Value} {f : Addr} (X : K.In h) (G : h.Ns mainGlobals mg) (hf : mg ("law" : Str) = some (.ref f)) (c9 : SaysX fl fa fn ecs K) :
    ∃ fd : FuncData, (∀ (s : Shared) (v : Value), BindsTo s fd ⟨[v], []⟩ [("_law_script", v)]) ∧ ∀ base : Heap, K.In base → base.Ns mainGlobals mg → FnG (PySem.Challenge.rw_labelhouse_k13_whole_panels).prog w K mg base (CX (PySem.Challenge.rw_labelhouse_k13_whole_panels).prog w) 12 f fd ["_law_script"] (spC (semOf dfs 12) (gamOf K ecs) K f_law 1) := by
  have c := c9.d
  obtain ⟨fd, F⟩ := c.def_ 35 (d := e_law) rfl
  have m := He.glo_ok X G (c.fact 35 (f := .glo "law") rfl)
  have e := hf.symm.trans m
  cases e
  have b := FunD.bindsA (ps := ["_law_script"]) F fun _ _ _ _ _ _ us hl => match us, hl with | [_], _ => rfl
  have T : Told K mg d_law (top 48) _ fd := ⟨F, m, F.bindsN fun _ _ _ _ _ _ us hl => match us, hl with | [_], _ => rfl⟩
  exact ⟨fd, fun s v => b s [v] rfl, fun base _ _ => prog_ok (c := cfg) (l := dfs) (sts := sts) rfl (by decide +kernel) rfl (told X G c) (glbs X G c) (frees X G c) (fun i x ps st e => c9.cls X G (by decide +kernel) ecs_ok (by first | decide +kernel | kernel_rfl) i x ps st (by first | exact e | (rw [← e]; rfl))) (fun i j Ci Cj fi fj e1 e2 => c9.exm i j Ci Cj fi fj e1 e2) 12 35 d_law (top 48) rfl rfl _ fd T⟩
end K13

namespace K13
open G PC
abbrev P := fnOf dfs
theorem Sp : PPan P := ⟨⟨rfl, rfl, rfl, rfl, rfl, rfl, rfl, rfl, rfl, rfl, rfl, rfl⟩, ⟨rfl, rfl, rfl, rfl, rfl⟩, rfl, rfl, rfl, rfl, rfl, rfl, rfl, rfl, rfl⟩
theorem hN : P f__law_next = some ⟨2, 6, nextB⟩ := rfl
theorem hC : P f__law_counter = some ⟨2, 6, ctB f__law_next⟩ := rfl
theorem hZ : P f__law_size = some ⟨1, 3, szB⟩ := rfl
theorem hTx : P f__law_text = some Lib.counters.fn_text_in := rfl
/-- a hand of the law -/
structure Sh (r : Hn) : Prop where
  ok : HnOk r
  low : Low r.cs
  sz : csz r.cs ≤ 12
  st0 : -12 ≤ r.st
  st1 : r.st ≤ 36
  ev : r.ev ≤ 4
theorem c_lhand (k : Nat) {h : Hp} {p : Nat} {K : Int} (d : Dr h 2 0 p K) (hK : K < 2 ^ 50) : ∃ (r : Hn) (h' : Hp) (p' : Nat), callV (sem P (k + 3)) f__law_hand [.val (.ref 2)] h = .ok (.val (hD r)) h' ∧ Sh r ∧ Dr h' 2 0 p' (K + 7) := by
  obtain ⟨cs, h0, p0, e0, c, low, sz, d0⟩ := c_counter hN hC k (most := 12) (by omega) (by omega) d (by omega)
  have cp := c.pos
  obtain ⟨x1, h1, p1, e1, a1, b1, d1, _⟩ := draw hN (k + 1) (total := csz cs) d0 (by omega) (by omega) (by omega)
  obtain ⟨x2, h2, p2, e2, a2, b2, d2, _⟩ := draw hN (k + 1) (total := 3 * csz cs) d1 (by omega) (by omega) (by omega)
  obtain ⟨x3, h3, p3, e3, a3, b3, d3, _⟩ := draw hN (k + 1) (total := 4) d2 (by omega) (by omega) (by omega)
  refine ⟨⟨cs, x1, x2 - csz cs, 1 + x3⟩, h3, p3, ?_, ⟨⟨c, a1, b1, by show -1000000000000000000 ≤ x2 - csz cs; omega, by show x2 - csz cs ≤ 1000000000000000000; omega, by show 1 ≤ 1 + x3; omega, by show 1 + x3 ≤ 1000000; omega⟩, low, sz, by show -12 ≤ x2 - csz cs; omega, by show x2 - csz cs ≤ 36; omega, by show 1 + x3 ≤ 4; omega⟩, d3.up (by omega)⟩
  have ec : callV (sem P (k + 3)) f__law_hand [.val (.ref 2)] h = sem P (k + 3) f__law_hand [.ref 2] h := rfl
  have hP : P f__law_hand = some ⟨1, 3, b__law_hand⟩ := rfl
  rw [ec, sem_succ hP]
  refine runFn_eq (ρ := [some (.ref 2), none, none]) ?_ rfl rfl
  have mm : mulOk 3 (csz cs) = true := mulOk_of 10 60 (by decide) (nat_lt (by omega) (by omega)) (by omega)
  have cz := fun h => c_lsz hZ (k + 1) c h
  simp only [b__law_hand, exs, ex, ev, evs, r_bind, r_st, boxAll, boxOne, List.length_cons, List.length_nil, Nat.zero_add, Nat.reduceAdd, lim_4, decide_true, r_when, List.getElem?_cons_zero, List.getElem?_cons_succ, List.set_cons_zero, List.set_cons_succ, e0, cz, e1, bin_mul, mm, e2, bin_sub, e3, bin_add]
  rfl
theorem c_text_of (k : Nat) {r : Hn} (s : Sh r) {n : Int} (n0 : 0 ≤ n) (n1 : n < 2 ^ 60) (h : Hp) : callV (sem P (k + 2)) f__law_text_of [.val (hD r), .val (.int n)] h = .ok (.val (.str (PC.tx r.cs (hsh r n)))) h := by
  refine call_val (by simp [Rv.free, D.free]) rfl (hc := []) ?_ rfl
  have hP : P f__law_text_of = some ⟨2, 3, b__law_text_of⟩ := rfl
  rw [sem_succ hP]
  refine runFn_eq (ρ := [some (hD r), some (.int n), none]) ?_ rfl rfl
  have o := s.ok
  have e0 := o.e0
  have e1 := s.ev
  have s0 := s.st0
  have s1 := s.st1
  have dv : divOk r.ev = true := divOk_of 200 (by omega) (nat_lt (by omega) (by omega)) (by omega)
  have q0 : 0 ≤ n / r.ev := Int.ediv_nonneg n0 (by omega)
  have q1 : n / r.ev ≤ n := Int.ediv_le_self _ n0
  have m : mulOk (n / r.ev) r.st = true := mulOk_of 100 100 (nat_lt (by omega) (by omega)) (by omega) (by omega)
  have cz := fun h => c_lsz hZ k o.c h
  have ct := fun h => c_ltx hTx k o.c (hsh r n) h
  have wp := o.wp
  have eh : (r.b + n / r.ev * r.st) % csz r.cs = hsh r n := rfl
  simp only [b__law_text_of, exs, ex, ev, evs, r_bind, r_st, boxOne, List.getElem?_cons_zero, List.getElem?_cons_succ, List.set_cons_zero, List.set_cons_succ, ih0, ih1, ih2, ih3, cz, bin_fdiv, dv, r_when, bin_mul, m, bin_add, b1_i, bin_mod, decide_eq_true wp, eh, ct]
/-- when the multiples of the step come round -/
theorem round_iff {r : Hn} (o : HnOk r) (t : Int) : t * r.st % csz r.cs = 0 ↔ t % hT r = 0 := by
  obtain ⟨f, isf, _⟩ := c_serial Sp.toPRun 0 o.c (b := 0) (st := r.st) (n := 0) o.stb (by omega) o.wp
  cases f with
  | none => exact absurd (by simp) (isf 0)
  | some f =>
    obtain ⟨f0, f1, hf⟩ := isf
    have z := (hf 0).mp (by simp)
    have f00 : f = 0 := by rw [← z]; simp
    subst f00
    have := hf t
    rw [Int.zero_add] at this
    exact this
def tuT : E := .cmp .ne (.bin .mod (.b1 .int (.bin .mul (.var 1) (.idx (.var 0) (.c (.int 2))))) (.call f__law_size (.cons (.idx (.var 0) (.c (.int 0))) .nil))) (.c (.int 0))
def tuW : Ss := .cons (.asg 1 (.bin .add (.var 1) (.c (.int 1)))) .nil
theorem tu_loop (k : Nat) {r : Hn} (s : Sh r) (h : Hp) : ∀ (j : Nat) (t : Int) (n : Nat), 1 ≤ t → t + j = hT r → j + 1 ≤ n → whileL (tst (sem P (k + 1)) tuT) (exs (sem P (k + 1)) tuW) n [some (hD r), some (.int t)] h = .nx [some (hD r), some (.int (hT r))] h := by
  have o := s.ok
  have T := o.t
  have sz := s.sz
  have wp := o.wp
  have s0 := s.st0
  have s1 := s.st1
  have cz := fun h => c_lsz hZ k o.c h
  have tst_ : ∀ t : Int, 1 ≤ t → t ≤ 12 → tst (sem P (k + 1)) tuT [some (hD r), some (.int t)] h = .ok (!decide (t % hT r = 0)) h := fun t t0 t1 => by
    have m : mulOk t r.st = true := mulOk_of 100 100 (nat_lt (by omega) (by omega)) (by omega) (by omega)
    have e : decide (t * r.st % csz r.cs = 0) = decide (t % hT r = 0) := by
      rcases Decidable.em (t % hT r = 0) with c | c
      · rw [decide_eq_true c, decide_eq_true ((round_iff o t).mpr c)]
      · rw [decide_eq_false c, decide_eq_false fun z => c ((round_iff o t).mp z)]
    simp only [tuT, tst, ev, evs, r_bind, List.getElem?_cons_zero, List.getElem?_cons_succ, ih0, ih2, bin_mul, m, r_when, b1_i, cz, bin_mod, decide_eq_true wp, cmp_ne, eqV_i, e, Option.map_some, r_bool, tru_b, r_opt]
  intro j
  induction j with
  | zero =>
    intro t n t1 et hn
    have : t = hT r := by omega
    subst this
    match n, hn with
    | n + 1, _ =>
      have := tst_ (hT r) t1 (by omega)
      simp only [whileL, this, Int.emod_self, decide_true, Bool.not_true]
  | succ j ih =>
    intro t n t1 et hn
    match n, hn with
    | n + 1, hn =>
      have z : ¬ t % hT r = 0 := by rw [Int.emod_eq_of_lt (by omega) (by omega)]; omega
      have a := tst_ t t1 (by omega)
      rw [decide_eq_false z, Bool.not_false] at a
      have b : exs (sem P (k + 1)) tuW [some (hD r), some (.int t)] h = .nx [some (hD r), some (.int (t + 1))] h := by
        simp only [tuW, exs, ex, ev, r_bind, r_st, List.getElem?_cons_zero, List.getElem?_cons_succ, bin_add, boxOne, List.set_cons_zero, List.set_cons_succ]
      conv => lhs; unfold whileL
      simp only [a, b]
      exact ih (t + 1) n (by omega) (by omega) (by omega)
theorem c_lturn (k : Nat) {r : Hn} (s : Sh r) (h : Hp) : callV (sem P (k + 2)) f__law_turn [.val (hD r)] h = .ok (.val (.int (r.ev * hT r))) h := by
  refine call_val (by simp [Rv.free]) rfl (hc := []) ?_ rfl
  have hP : P f__law_turn = some ⟨1, 2, b__law_turn⟩ := rfl
  rw [sem_succ hP]
  refine runFn_eq (ρ := [some (hD r), none]) ?_ rfl rfl
  have o := s.ok
  have T := o.t
  have sz := s.sz
  have e0 := o.e0
  have e1 := s.ev
  have w := tu_loop k s [] (hT r - 1).toNat 1 fuel (by omega) (by omega) (by simp only [fuel]; omega)
  have m : mulOk (hT r) r.ev = true := mulOk_of 100 100 (nat_lt (by omega) (by omega)) (nat_lt (by omega) (by omega)) (by omega)
  have a1 : ex (sem P (k + 1)) (.asg 1 (.c (.int 1))) [some (hD r), none] [] = .nx [some (hD r), some (.int 1)] [] := by
    simp only [ex, ev, r_st, boxOne, List.set_cons_zero, List.set_cons_succ]
  have a2 : ex (sem P (k + 1)) (.whl tuT tuW) [some (hD r), some (.int 1)] [] = .nx [some (hD r), some (.int (hT r))] [] := by
    simp only [ex]; exact w
  have eb : b__law_turn = .cons (.asg 1 (.c (.int 1))) (.cons (.whl tuT tuW) (.cons (.ret (.bin .mul (.var 1) (.idx (.var 0) (.c (.int 3))))) .nil)) := rfl
  rw [eb]
  simp only [exs, a1, a2]
  simp only [ex, ev, r_bind, r_st, List.getElem?_cons_zero, List.getElem?_cons_succ, ih3, bin_mul, m, r_when, Int.mul_comm (hT r)]
/-! ### behind how many labels both stand as at first -/
theorem bck_lcm {r q : Hn} (o : HnOk r) (u : HnOk q) : bck r q = (Nat.lcm (r.ev * hT r).toNat (q.ev * hT q).toNat : Nat) := by
  have n1 := o.nb
  have n2 := u.nb
  unfold bck
  generalize r.ev * hT r = A at *
  generalize q.ev * hT q = B at *
  obtain ⟨a, rfl⟩ : ∃ a : Nat, A = (a : Int) := ⟨A.toNat, by omega⟩
  obtain ⟨b, rfl⟩ : ∃ b : Nat, B = (b : Int) := ⟨B.toNat, by omega⟩
  simp only [Int.natAbs_natCast, Int.toNat_natCast]
  have gp : 0 < Nat.gcd a b := Nat.gcd_pos_of_pos_left _ (by omega)
  have e : a / Nat.gcd a b * b = Nat.lcm a b := by
    have h1 := Nat.gcd_mul_lcm a b
    have h2 : Nat.gcd a b * (a / Nat.gcd a b) = a := Nat.mul_div_cancel' (Nat.gcd_dvd_left a b)
    have h3 : Nat.gcd a b * (a / Nat.gcd a b * b) = Nat.gcd a b * Nat.lcm a b := by rw [← Nat.mul_assoc, h2, h1]
    exact Nat.eq_of_mul_eq_mul_left gp h3
  rw [← e]
  rfl
theorem bck_least {r q : Hn} (o : HnOk r) (u : HnOk q) {j : Int} (j0 : 0 < j) (h : j * (r.ev * hT r) % (q.ev * hT q) = 0) : bck r q ≤ j * (r.ev * hT r) := by
  have n1 := o.nb
  have n2 := u.nb
  rw [bck_lcm o u]
  generalize r.ev * hT r = A at *
  generalize q.ev * hT q = B at *
  obtain ⟨a, rfl⟩ : ∃ a : Nat, A = (a : Int) := ⟨A.toNat, by omega⟩
  obtain ⟨b, rfl⟩ : ∃ b : Nat, B = (b : Int) := ⟨B.toNat, by omega⟩
  obtain ⟨i, rfl⟩ : ∃ i : Nat, j = (i : Int) := ⟨j.toNat, by omega⟩
  simp only [Int.toNat_natCast]
  have h' : i * a % b = 0 := by
    have : ((i * a % b : Nat) : Int) = 0 := by rw [← h]; simp
    omega
  have d1 : b ∣ i * a := Nat.dvd_of_mod_eq_zero h'
  have d2 : Nat.lcm a b ∣ i * a := Nat.lcm_dvd (Nat.dvd_mul_left a i) d1
  have := Nat.le_of_dvd (Nat.mul_pos (by omega) (by omega)) d2
  have e : ((i * a : Nat) : Int) = (i : Int) * (a : Int) := by simp
  omega
theorem small_n {r : Hn} (s : Sh r) : 1 ≤ r.ev * hT r ∧ r.ev * hT r ≤ 48 := by
  have o := s.ok
  have T := o.t
  have sz := s.sz
  have e0 := o.e0
  have e1 := s.ev
  have : r.ev * hT r ≤ 4 * 12 := Int.mul_le_mul e1 (by omega) (by omega) (by omega)
  have := o.nb
  omega
def bkT : E := .cmp .ne (.bin .mod (.b1 .int (.var 2)) (.call f__law_turn (.cons (.var 1) .nil))) (.c (.int 0))
def bkW : Ss := .cons (.asg 2 (.bin .add (.var 2) (.call f__law_turn (.cons (.var 0) .nil)))) .nil
theorem bk_loop (k : Nat) {r q : Hn} (s : Sh r) (s' : Sh q) {x : Int} (hx : bck r q = x * (r.ev * hT r)) (hy : bck r q % (q.ev * hT q) = 0) (h : Hp) : ∀ (i : Nat) (j : Int) (n : Nat), 1 ≤ j → j + i = x → i + 1 ≤ n → whileL (tst (sem P (k + 2)) bkT) (exs (sem P (k + 2)) bkW) n [some (hD r), some (hD q), some (.int (j * (r.ev * hT r)))] h = .nx [some (hD r), some (hD q), some (.int (bck r q))] h := by
  have n1 := small_n s
  have n2 := small_n s'
  have c1 := fun h => c_lturn k s h
  have c2 := fun h => c_lturn k s' h
  have fp : 0 < q.ev * hT q := by omega
  have tst_ : ∀ v : Int, tst (sem P (k + 2)) bkT [some (hD r), some (hD q), some (.int v)] h = .ok (!decide (v % (q.ev * hT q) = 0)) h := fun v => by
    simp only [bkT, tst, ev, evs, r_bind, List.getElem?_cons_zero, List.getElem?_cons_succ, b1_i, c2, bin_mod, decide_eq_true fp, r_when, cmp_ne, eqV_i, Option.map_some, r_bool, tru_b, r_opt]
  intro i
  induction i with
  | zero =>
    intro j n j1 ej hn
    have : j = x := by omega
    subst this
    rw [← hx]
    match n, hn with
    | n + 1, _ =>
      have := tst_ (bck r q)
      rw [decide_eq_true hy, Bool.not_true] at this
      simp only [whileL, this]
  | succ i ih =>
    intro j n j1 ej hn
    match n, hn with
    | n + 1, hn =>
      have z : ¬ j * (r.ev * hT r) % (q.ev * hT q) = 0 := fun z => by
        have := bck_least s.ok s'.ok (by omega) z
        rw [hx] at this
        have : (j + 1) * (r.ev * hT r) ≤ x * (r.ev * hT r) := Int.mul_le_mul_of_nonneg_right (by omega) (by omega)
        rw [Int.add_mul] at this
        omega
      have a := tst_ (j * (r.ev * hT r))
      rw [decide_eq_false z, Bool.not_false] at a
      have b : exs (sem P (k + 2)) bkW [some (hD r), some (hD q), some (.int (j * (r.ev * hT r)))] h = .nx [some (hD r), some (hD q), some (.int ((j + 1) * (r.ev * hT r)))] h := by
        rw [Int.add_mul, Int.one_mul]
        simp only [bkW, exs, ex, ev, evs, r_bind, r_st, List.getElem?_cons_zero, List.getElem?_cons_succ, c1, bin_add, boxOne, List.set_cons_zero, List.set_cons_succ]
      conv => lhs; unfold whileL
      simp only [a, b]
      exact ih (j + 1) n (by omega) (by omega) (by omega)
theorem bck_small {r q : Hn} (s : Sh r) (s' : Sh q) : 1 ≤ bck r q ∧ bck r q ≤ 2304 := by
  have n1 := small_n s
  have n2 := small_n s'
  obtain ⟨x, y, h1, h2, b0, _⟩ := bck_eq s.ok s'.ok
  have z : q.ev * hT q * (r.ev * hT r) % (q.ev * hT q) = 0 := Int.mul_emod_right _ _
  have := bck_least s.ok s'.ok (by omega) z
  have : q.ev * hT q * (r.ev * hT r) ≤ 48 * 48 := Int.mul_le_mul n2.2 n1.2 (by omega) (by omega)
  omega
theorem c_lback (k : Nat) {r q : Hn} (s : Sh r) (s' : Sh q) (h : Hp) : callV (sem P (k + 3)) f__law_back [.val (hD r), .val (hD q)] h = .ok (.val (.int (bck r q))) h := by
  refine call_val (by simp [Rv.free]) rfl (hc := []) ?_ rfl
  have hP : P f__law_back = some ⟨2, 3, b__law_back⟩ := rfl
  rw [sem_succ hP]
  refine runFn_eq (ρ := [some (hD r), some (hD q), none]) ?_ rfl rfl
  obtain ⟨x, y, h1, h2, b0, _⟩ := bck_eq s.ok s'.ok
  have n1 := small_n s
  have bs := bck_small s s'
  have x0 : 1 ≤ x := by
    rcases Int.lt_or_le 0 x with z | z
    · omega
    · have := Int.mul_nonpos_of_nonpos_of_nonneg z (show 0 ≤ r.ev * hT r by omega)
      omega
  have x1 : x ≤ 2304 := by
    have : x * 1 ≤ x * (r.ev * hT r) := Int.mul_le_mul_of_nonneg_left n1.1 (by omega)
    omega
  have w := bk_loop k s s' h1 (by rw [h2, Int.mul_emod_left]) [] (x - 1).toNat 1 fuel (by omega) (by omega) (by simp only [fuel]; omega)
  rw [Int.one_mul] at w
  have c1 := fun h => c_lturn k s h
  have a1 : ex (sem P (k + 2)) (.asg 2 (.call f__law_turn (.cons (.var 0) .nil))) [some (hD r), some (hD q), none] [] = .nx [some (hD r), some (hD q), some (.int (r.ev * hT r))] [] := by
    simp only [ex, ev, evs, r_bind, r_st, List.getElem?_cons_zero, c1, boxOne, List.set_cons_zero, List.set_cons_succ]
  have a2 : ex (sem P (k + 2)) (.whl bkT bkW) [some (hD r), some (hD q), some (.int (r.ev * hT r))] [] = .nx [some (hD r), some (hD q), some (.int (bck r q))] [] := by
    simp only [ex]; exact w
  have eb : b__law_back = .cons (.asg 2 (.call f__law_turn (.cons (.var 0) .nil))) (.cons (.whl bkT bkW) (.cons (.ret (.var 2)) .nil)) := rfl
  rw [eb]
  simp only [exs, a1, a2]
  simp only [ex, ev, r_st, List.getElem?_cons_zero, List.getElem?_cons_succ]
end K13

namespace K13
open G PC
abbrev pf (r q : Hn) (n : Int) : D := .tup [.str (PC.tx r.cs (hsh r n)), .str (PC.tx q.cs (hsh q n))]
def pL (r q : Hn) (N : Nat) : List D := (List.range N).map fun n : Nat => pf r q (n : Int)
def toF (r q : Hn) : D → D
  | .int n => pf r q n
  | _ => .non
theorem map_toF (r q : Hn) (N : Nat) : (rangeL 0 1 N).map (toF r q) = pL r q N := by
  rw [rngL, List.map_map]
  unfold pL
  apply List.map_congr_left
  intro n _
  simp [toF]
theorem dok_pf {r q : Hn} (s : Sh r) (s' : Sh q) (h : Hp) (m : Nat) (n : Int) : dok h (m + 2) (pf r q n) = true := by
  have lw : ∀ {z : Hn} (g : Sh z) (m : Int), ∀ c ∈ PC.tx z.cs (hsh z m), c < 55296 := fun {z} g m => low_Tx (tx_Tx g.ok.c.dls _) g.low
  simp only [dok, List.all_cons, List.all_nil, Bool.and_true, Bool.and_eq_true]
  exact ⟨dok_str (h := h) (n := m) (lw s n), dok_str (h := h) (n := m) (lw s' n)⟩
theorem dok_pL {r q : Hn} (s : Sh r) (s' : Sh q) (h : Hp) (m : Nat) (N : Nat) : (pL r q N).all (dok h (m + 2)) = true := by
  rw [List.all_eq_true]
  intro x hx
  obtain ⟨n, _, rfl⟩ := List.mem_map.mp hx
  exact dok_pf s s' h m n
/-- both texts at a label -/
def bth (r q : Hn) (τ τ' n : Int) : Bool := decide (hsh r n = τ) && decide (hsh q n = τ')
theorem deq_pf {r q : Hn} (s : Sh r) (s' : Sh q) {τ τ' : Int} (t0 : 0 ≤ τ) (t1 : τ < csz r.cs) (v0 : 0 ≤ τ') (v1 : τ' < csz q.cs) (h : Hp) (n : Int) : deq h 59 (pf r q n) (.tup [.str (PC.tx r.cs τ), .str (PC.tx q.cs τ')]) = bth r q τ τ' n := by
  have a := s.ok.sb n
  have b := s'.ok.sb n
  have e1 : decide (PC.tx r.cs (hsh r n) = PC.tx r.cs τ) = decide (hsh r n = τ) := by
    rcases Decidable.em (hsh r n = τ) with c | c
    · rw [decide_eq_true c, c]; simp
    · rw [decide_eq_false c, decide_eq_false fun z => c ((tx_inj s.ok.c.dls a.1 a.2 t0 t1).mp z)]
  have e2 : decide (PC.tx q.cs (hsh q n) = PC.tx q.cs τ') = decide (hsh q n = τ') := by
    rcases Decidable.em (hsh q n = τ') with c | c
    · rw [decide_eq_true c, c]; simp
    · rw [decide_eq_false c, decide_eq_false fun z => c ((tx_inj s'.ok.c.dls b.1 b.2 v0 v1).mp z)]
  simp only [deq, all2, Bool.and_true, e1, e2, bth]
theorem idx_find {f : Nat → D} {d : D} {M : Nat → Bool} {h : Hp} (hM : ∀ n, deq h 59 (f n) d = M n) : ∀ l : List Nat, idxD h d (l.map f) = l.findIdx? M
  | [] => rfl
  | n :: l => by
    rw [List.map_cons, List.findIdx?_cons]
    simp only [idxD, hM n, idx_find hM l]
theorem find_range {M : Nat → Bool} {w N : Nat} (hw : w < N) (mw : M w = true) (ml : ∀ j, j < w → M j = false) : (List.range N).findIdx? M = some w := by
  rw [List.findIdx?_eq_some_iff_getElem]
  refine ⟨by simpa using hw, by simpa using mw, fun j hj => ?_⟩
  simp [ml j hj]
def lcA : E := .lc [9] (.one 9) (.r1 (.bin .add (.var 4) (.c (.int 3)))) .nil (.tup (.cons (.call f__law_text_of (.cons (.idx (.var 3) (.c (.int 0))) (.cons (.var 9) .nil))) (.cons (.call f__law_text_of (.cons (.idx (.var 3) (.c (.int 1))) (.cons (.var 9) .nil))) .nil)))
def lcB : E := .lc [9] (.one 9) (.r1 (.bin .add (.var 4) (.c (.int 3)))) .nil (.call Lib.panels.f_shown (.cons (.var 3) (.cons (.var 9) .nil)))
section
variable {r q : Hn} (s : Sh r) (s' : Sh q)
abbrev En (r q : Hn) (t0 t2 t5 t6 t7 t8 t9 t10 : Option D) : Env := [t0, some (.ref 2), t2, some (.tup [hD r, hD q]), some (.int (bck r q)), t5, t6, t7, t8, t9, t10]
theorem i0 (h : Hp) : idxV h (.val (.tup [hD r, hD q])) (.val (.int 0)) = .ok (.val (hD r)) h := rfl
theorem i1 (h : Hp) : idxV h (.val (.tup [hD r, hD q])) (.val (.int 1)) = .ok (.val (hD q)) h := rfl
abbrev NN (r q : Hn) : Nat := (bck r q + 3).toNat
include s s' in
theorem lc_gen (k : Nat) {e : E} (t0 t2 t5 t6 t7 t8 t9 t10 : Option D) (h : Hp) (H : ∀ n : Int, 0 ≤ n → n < 2400 → ev (sem P (k + 7)) e (En r q t0 t2 t5 t6 t7 t8 (some (.int n)) t10) h = .ok (.val (pf r q n)) h) : ev (sem P (k + 7)) (.lc [9] (.one 9) (.r1 (.bin .add (.var 4) (.c (.int 3)))) .nil e) (En r q t0 t2 t5 t6 t7 t8 t9 t10) h = .ok (.new (.lst (pL r q (NN r q)))) h := by
  have bs := bck_small s s'
  have ei : evi (sem P (k + 7)) (.r1 (.bin .add (.var 4) (.c (.int 3)))) (En r q t0 t2 t5 t6 t7 t8 t9 t10) h = .ok (rangeL 0 1 (NN r q), []) h := r1_ok (by simp only [ev, r_bind, List.getElem?_cons_zero, List.getElem?_cons_succ, bin_add]) (small_of (by omega) (by omega))
  rw [ev_lc, ei]
  simp only [r_bind]
  rw [compL_map (F := toF r q) rfl _ fun x hx => ?_]
  · have l : (pL r q (NN r q)).length ≤ lim := by
      simp only [pL, List.length_map, List.length_range, lim]
      have : NN r q = (bck r q + 3).toNat := rfl
      omega
    rw [map_toF]
    simp only [r_bind, decide_eq_true l, r_when]
  · rw [rngL] at hx
    obtain ⟨n, hn, rfl⟩ := List.mem_map.mp hx
    have hn' : n < NN r q := by simpa using hn
    have nb : (n : Int) < 2400 := by
      have : NN r q = (bck r q + 3).toNat := rfl
      omega
    have bt : bindTg (wipeE (En r q t0 t2 t5 t6 t7 t8 t9 t10) [9]) (.one 9) (.int (0 + (n : Int))) = some (En r q t0 t2 t5 t6 t7 t8 (some (.int (0 + (n : Int)))) t10) := rfl
    have c := H (0 + (n : Int)) (by omega) (by omega)
    simp only [lcF, bt, tsts, r_bind, c, boxOne, toF]
include s s' in
theorem lcA_ok (k : Nat) (t0 t2 t5 t6 t7 t8 t9 t10 : Option D) (h : Hp) : ev (sem P (k + 7)) lcA (En r q t0 t2 t5 t6 t7 t8 t9 t10) h = .ok (.new (.lst (pL r q (NN r q)))) h := by
  refine lc_gen s s' k t0 t2 t5 t6 t7 t8 t9 t10 h fun n n0 n1 => ?_
  have c1 := fun h => c_text_of (k + 5) s (n := n) n0 (by omega) h
  have c2 := fun h => c_text_of (k + 5) s' (n := n) n0 (by omega) h
  simp only [ev, evs, r_bind, List.getElem?_cons_zero, List.getElem?_cons_succ, i0, i1, c1, c2, boxAll, boxOne, List.length_cons, List.length_nil, Nat.zero_add, Nat.reduceAdd, lim_2, decide_true, r_when]
include s s' in
theorem lcB_ok (k : Nat) (t0 t2 t5 t6 t7 t8 t9 t10 : Option D) (h : Hp) : ev (sem P (k + 7)) lcB (En r q t0 t2 t5 t6 t7 t8 t9 t10) h = .ok (.new (.lst (pL r q (NN r q)))) h := by
  refine lc_gen s s' k t0 t2 t5 t6 t7 t8 t9 t10 h fun n n0 n1 => ?_
  have c1 := fun h => c_pshown Sp (k + 2) s.ok s'.ok (n := n) n0 (by omega) h
  simp only [ev, evs, r_bind, List.getElem?_cons_zero, List.getElem?_cons_succ, c1]
def vI : G.S := .ife (.or (.cmp .ne lcB (.var 5)) (.cmp .ne (.b1 .repr (.call Lib.panels.f_comes_back (.cons (.var 3) .nil))) (.b1 .repr (.var 4)))) (.cons (.ret (.c (.bl false))) .nil) .nil
include s s' in
theorem vI_ok (k : Nat) (t0 t2 t6 t7 t8 t9 t10 : Option D) {n : Nat} {h : Hp} (g : h[n]? = some (.lst (pL r q (NN r q)))) : ex (sem P (k + 7)) vI (En r q t0 t2 (some (.ref n)) t6 t7 t8 t9 t10) h = .nx (En r q t0 t2 (some (.ref n)) t6 t7 t8 t9 t10) h := by
  have l := lcB_ok s s' k t0 t2 (some (.ref n)) t6 t7 t8 t9 t10 h
  have bs := bck_small s s'
  have c := fun h => c_back Sp (k + 2) s.ok s'.ok h
  have rp : ∀ h, reprV h (.val (.int (bck r q))) = some (intS (bck r q)) := fun h => repr_int (by omega) (by omega)
  have eq : eqV h (.new (.lst (pL r q (NN r q)))) (.val (.ref n)) = some true := eqV_new g fun x hx => by
    obtain ⟨j, _, rfl⟩ := List.mem_map.mp hx
    exact dok_pf s s' _ 57 j
  unfold vI
  generalize lcB = z at l ⊢
  simp only [ex, tst, ev, evs, r_bind, r_st, r_opt, l, List.getElem?_cons_zero, List.getElem?_cons_succ, cmp_ne, eq, Option.map_some, Bool.not_true, r_bool, tru_b, c, e_repr, rp, eqV_s, decide_true, exs]
def lcP : E := .lc [10] (.one 10) (.seq (.var 3)) .nil (.call f__law_text (.cons (.idx (.var 10) (.c (.int 0))) (.cons (.call f__law_next (.cons (.var 1) (.cons (.call f__law_size (.cons (.idx (.var 10) (.c (.int 0))) .nil)) .nil))) .nil)))
def vW : Ss := .cons (.asg 7 (.b1 .tuple lcP)) (.cons (.asg 8 (.ife (.cmp .inD (.var 7) (.slc (.var 5) .none (.some (.var 4)))) (.mt .indexL (.var 5) (.cons (.var 7) .nil)) (.c .non))) (.cons (.ife (.cmp .ne (.b1 .repr (.call Lib.panels.f_meet (.cons (.var 3) (.cons (.idx (.var 7) (.c (.int 0))) (.cons (.idx (.var 7) (.c (.int 1))) .nil))))) (.b1 .repr (.var 8))) (.cons (.ret (.c (.bl false))) .nil) .nil) .nil))
/-- the list of all labels stands beside the draws -/
structure St (r q : Hn) (n : Nat) (h : Hp) (p : Nat) (K : Int) : Prop where
  d : Dr h 2 0 p K
  g : h[n]? = some (.lst (pL r q (NN r q)))
  n2 : n ≠ 2
  np : n ≠ p
theorem St.next {n : Nat} {h : Hp} {p : Nat} {K : Int} (t : St r q n h p K) (k : Nat) {total : Int} (ht : 0 < total) (hb : total < 2 ^ 200) (hK : K < 2 ^ 60) : ∃ (y : Int) (h' : Hp) (p' : Nat), callV (sem P (k + 1)) f__law_next [.val (.ref 2), .val (.int total)] h = .ok (.val (.int y)) h' ∧ 0 ≤ y ∧ y < total ∧ St r q n h' p' (K + 1) := by
  obtain ⟨y, h', p', e, y0, y1, d', pp, hl, fr⟩ := draw hN k t.d ht hb hK
  have nl : n < h.length := (List.getElem?_eq_some_iff.mp t.g).1
  refine ⟨y, h', p', e, y0, y1, d', ?_, t.n2, ?_⟩
  · rw [fr n nl t.n2 t.np]; exact t.g
  · rcases pp with z | z
    · rw [z]; exact t.np
    · omega
include s s' in
theorem v_step (k : Nat) (t0 t2 t7 t8 t9 t10 : Option D) (x : D) {n : Nat} {h : Hp} {p : Nat} {K : Int} (st : St r q n h p K) (hK : K < 2 ^ 55) : ∃ (t7' t8' : Option D) (h' : Hp) (p' : Nat), exs (sem P (k + 7)) vW (En r q t0 t2 (some (.ref n)) (some x) t7 t8 t9 t10) h = .nx (En r q t0 t2 (some (.ref n)) (some x) t7' t8' t9 t10) h' ∧ St r q n h' p' (K + 2) := by
  have o := s.ok
  have u := s'.ok
  have wp := o.wp
  have wp' := u.wp
  have sz := s.sz
  have sz' := s'.sz
  obtain ⟨τ, h1, p1, e1, a0, a1, st1⟩ := st.next (k + 6) (total := csz r.cs) wp (by omega) (by omega)
  obtain ⟨τ', h2, p2, e2, b0, b1, st2⟩ := st1.next (k + 6) (total := csz q.cs) wp' (by omega) (by omega)
  have bs := bck_small s s'
  have cz1 := fun h => c_lsz hZ (k + 6) o.c h
  have cz2 := fun h => c_lsz hZ (k + 6) u.c h
  have ct1 := fun h => c_ltx hTx (k + 6) o.c τ h
  have ct2 := fun h => c_ltx hTx (k + 6) u.c τ' h
  have lc : ev (sem P (k + 7)) lcP (En r q t0 t2 (some (.ref n)) (some x) t7 t8 t9 t10) h = .ok (.new (.lst [.str (PC.tx r.cs τ), .str (PC.tx q.cs τ')])) h2 := by
    have ei : evi (sem P (k + 7)) (.seq (.var 3)) (En r q t0 t2 (some (.ref n)) (some x) t7 t8 t9 t10) h = .ok ([hD r, hD q], []) h := by
      simp only [evi, ev, List.getElem?_cons_zero, List.getElem?_cons_succ, r_bind, itemsOf, Option.map_some, r_opt, watch]
    unfold lcP
    rw [ev_lc, ei]
    have bt : ∀ z : D, bindTg (wipeE (En r q t0 t2 (some (.ref n)) (some x) t7 t8 t9 t10) [10]) (.one 10) z = some (En r q t0 t2 (some (.ref n)) (some x) t7 t8 t9 (some z)) := fun z => rfl
    have f1 : lcF (sem P (k + 7)) (En r q t0 t2 (some (.ref n)) (some x) t7 t8 t9 t10) [10] (.one 10) .nil (.call f__law_text (.cons (.idx (.var 10) (.c (.int 0))) (.cons (.call f__law_next (.cons (.var 1) (.cons (.call f__law_size (.cons (.idx (.var 10) (.c (.int 0))) .nil)) .nil))) .nil))) (hD r) h = .ok [.str (PC.tx r.cs τ)] h1 := by
      simp only [lcF, bt, tsts, r_bind, ev, evs, List.getElem?_cons_zero, List.getElem?_cons_succ, ih0, cz1, e1, ct1, boxOne]
    have f2 : lcF (sem P (k + 7)) (En r q t0 t2 (some (.ref n)) (some x) t7 t8 t9 t10) [10] (.one 10) .nil (.call f__law_text (.cons (.idx (.var 10) (.c (.int 0))) (.cons (.call f__law_next (.cons (.var 1) (.cons (.call f__law_size (.cons (.idx (.var 10) (.c (.int 0))) .nil)) .nil))) .nil))) (hD q) h1 = .ok [.str (PC.tx q.cs τ')] h2 := by
      simp only [lcF, bt, tsts, r_bind, ev, evs, List.getElem?_cons_zero, List.getElem?_cons_succ, ih0, cz2, e2, ct2, boxOne]
    simp only [r_bind, compL, same, f1, f2, List.singleton_append, List.length_cons, List.length_nil, Nat.zero_add, Nat.reduceAdd, lim_2, decide_true, r_when]
  have tp : b1V h2 .tuple (.new (.lst [.str (PC.tx r.cs τ), .str (PC.tx q.cs τ')])) = .ok (.val (.tup [.str (PC.tx r.cs τ), .str (PC.tx q.cs τ')])) h2 := rfl
  have A1 : ex (sem P (k + 7)) (.asg 7 (.b1 .tuple lcP)) (En r q t0 t2 (some (.ref n)) (some x) t7 t8 t9 t10) h = .nx (En r q t0 t2 (some (.ref n)) (some x) (some (.tup [.str (PC.tx r.cs τ), .str (PC.tx q.cs τ')])) t8 t9 t10) h2 := by
    generalize lcP = z at lc ⊢
    simp only [ex, ev, lc, r_bind, tp, r_st, boxOne, List.set_cons_zero, List.set_cons_succ]
  obtain ⟨mo, im, cm⟩ := c_meet Sp (k + 2) o u (τ := τ) (τ' := τ') a0 a1 b0 b1
  have dq := fun h j => deq_pf s s' a0 a1 b0 b1 h j
  obtain ⟨X, Y, hB1, hB2, B0, _⟩ := bck_eq o u
  have sl : ∀ h, h[n]? = some (.lst (pL r q (NN r q))) → slcV h (.val (.ref n)) none (some (.int (bck r q))) = .ok (.new (.lst (pL r q (bck r q).toNat))) h := fun h g => by
    have c := cut_to (pL r q (NN r q)) (p := (bck r q).toNat) (by simp only [pL, List.length_map, List.length_range]; have : NN r q = (bck r q + 3).toNat := rfl; omega)
    rw [Int.toNat_of_nonneg (by omega)] at c
    have tk : (pL r q (NN r q)).take (bck r q).toNat = pL r q (bck r q).toNat := by
      unfold pL
      rw [← List.map_take, List.take_range, Nat.min_eq_left (by have : NN r q = (bck r q + 3).toNat := rfl; omega)]
    rw [tk] at c
    simp only [slcV, optI, lstOf, objOf, g, Option.bind_some, lstIn, Option.map_some, r_opt, c]
  have kp : dok h2 59 (.tup [.str (PC.tx r.cs τ), .str (PC.tx q.cs τ')]) = true := by
    have l1 := low_Tx (tx_Tx o.c.dls τ) s.low
    have l2 := low_Tx (tx_Tx u.c.dls τ') s'.low
    simp only [dok, List.all_cons, List.all_nil, Bool.and_true, Bool.and_eq_true]
    exact ⟨dok_str (h := h2) (n := 57) l1, dok_str (h := h2) (n := 57) l2⟩
  have inE : cmpV h2 .inD (.val (.tup [.str (PC.tx r.cs τ), .str (PC.tx q.cs τ')])) (.new (.lst (pL r q (bck r q).toNat))) = .ok (.val (.bl ((List.range (bck r q).toNat).any fun j : Nat => bth r q τ τ' j))) h2 := by
    simp only [cmpV, lstOf, objOf, lstIn, Option.bind_some, dok_pL s s' h2 57, kp, Bool.and_self, if_true, r_bool]
    unfold pL
    rw [List.any_map]
    congr 2
    congr 1
    congr 1
    funext j
    exact dq h2 j
  have fin : ∀ (dd : D) (st8 : List Nat), ev (sem P (k + 7)) (.ife (.cmp .inD (.var 7) (.slc (.var 5) .none (.some (.var 4)))) (.mt .indexL (.var 5) (.cons (.var 7) .nil)) (.c .non)) (En r q t0 t2 (some (.ref n)) (some x) (some (.tup [.str (PC.tx r.cs τ), .str (PC.tx q.cs τ')])) t8 t9 t10) h2 = .ok (.val dd) h2 → (∀ h, reprV h (.val (optD mo)) = some st8) → (∀ h, reprV h (.val dd) = some st8) → ∃ (t7' t8' : Option D) (h' : Hp) (p' : Nat), exs (sem P (k + 7)) vW (En r q t0 t2 (some (.ref n)) (some x) t7 t8 t9 t10) h = .nx (En r q t0 t2 (some (.ref n)) (some x) t7' t8' t9 t10) h' ∧ St r q n h' p' (K + 2) := fun dd st8 e8 r1 r2 => by
    refine ⟨some (.tup [.str (PC.tx r.cs τ), .str (PC.tx q.cs τ')]), some dd, h2, p2, ?_, by rw [show K + 2 = K + 1 + 1 by omega]; exact st2⟩
    have j0 : ∀ h, idxV h (.val (.tup [.str (PC.tx r.cs τ), .str (PC.tx q.cs τ')])) (.val (.int 0)) = .ok (.val (.str (PC.tx r.cs τ))) h := fun h => rfl
    have j1 : ∀ h, idxV h (.val (.tup [.str (PC.tx r.cs τ), .str (PC.tx q.cs τ')])) (.val (.int 1)) = .ok (.val (.str (PC.tx q.cs τ'))) h := fun h => rfl
    have A2 : ex (sem P (k + 7)) (.asg 8 (.ife (.cmp .inD (.var 7) (.slc (.var 5) .none (.some (.var 4)))) (.mt .indexL (.var 5) (.cons (.var 7) .nil)) (.c .non))) (En r q t0 t2 (some (.ref n)) (some x) (some (.tup [.str (PC.tx r.cs τ), .str (PC.tx q.cs τ')])) t8 t9 t10) h2 = .nx (En r q t0 t2 (some (.ref n)) (some x) (some (.tup [.str (PC.tx r.cs τ), .str (PC.tx q.cs τ')])) (some dd) t9 t10) h2 := by
      generalize E.ife (.cmp .inD (.var 7) (.slc (.var 5) .none (.some (.var 4)))) (.mt .indexL (.var 5) (.cons (.var 7) .nil)) (.c .non) = z at e8 ⊢
      simp only [ex, e8, r_st, boxOne, List.set_cons_zero, List.set_cons_succ]
    have A3 : ex (sem P (k + 7)) (.ife (.cmp .ne (.b1 .repr (.call Lib.panels.f_meet (.cons (.var 3) (.cons (.idx (.var 7) (.c (.int 0))) (.cons (.idx (.var 7) (.c (.int 1))) .nil))))) (.b1 .repr (.var 8))) (.cons (.ret (.c (.bl false))) .nil) .nil) (En r q t0 t2 (some (.ref n)) (some x) (some (.tup [.str (PC.tx r.cs τ), .str (PC.tx q.cs τ')])) (some dd) t9 t10) h2 = .nx (En r q t0 t2 (some (.ref n)) (some x) (some (.tup [.str (PC.tx r.cs τ), .str (PC.tx q.cs τ')])) (some dd) t9 t10) h2 := by
      refine if_ne_skip (x := .val (.str st8)) (y := .val (.str st8)) (h1 := h2) (h2 := h2) ?_ ?_ (by simp)
      · simp only [ev, evs, r_bind, List.getElem?_cons_zero, List.getElem?_cons_succ, j0, j1, cm, e_repr, r1, Option.map_some, r_opt]
      · simp only [ev, r_bind, List.getElem?_cons_zero, List.getElem?_cons_succ, e_repr, r2, Option.map_some, r_opt]
    simp only [vW, exs, A1, A2, A3]
  have sl2 := sl h2 st2.g
  cases mo with
  | none =>
    have an : ((List.range (bck r q).toNat).any fun j : Nat => bth r q τ τ' j) = false := by
      rw [List.any_eq_false]
      intro j _
      have := im (j : Int) (by omega)
      simp only [bth, Bool.and_eq_true, decide_eq_true_eq]
      exact this
    rw [an] at inE
    refine fin .non noneS ?_ (fun h => repr_non) (fun h => repr_non)
    simp only [ev, evo, tst, r_bind, List.getElem?_cons_zero, List.getElem?_cons_succ, sl2, inE, tru_b, r_opt]
  | some w =>
    obtain ⟨w0, w1, w2, w3⟩ := im
    have m0 := Int.emod_nonneg w (show bck r q ≠ 0 by omega)
    have m1 := Int.emod_lt_of_pos w B0
    have hm : ∀ {z : Hn} (oz : HnOk z) {x : Int}, bck r q = x * (z.ev * hT z) → hsh z (w % bck r q) = hsh z w := fun {z} oz {x} hB => by
      have e := Int.emod_add_mul_ediv w (bck r q)
      have add : ∀ m c : Int, hsh z (m + c * (z.ev * hT z)) = hsh z m := fun m c => by
        have e0 := oz.e0
        unfold hsh
        have : (m + c * (z.ev * hT z)) / z.ev = m / z.ev + c * hT z := by
          rw [show c * (z.ev * hT z) = c * hT z * z.ev by rw [Int.mul_assoc, Int.mul_comm (hT z)], Int.add_mul_ediv_right _ _ (by omega)]
        rw [this, Int.add_mul, Int.mul_assoc]
        have z0 : hT z * z.st % csz z.cs = 0 := (round_iff oz (hT z)).mpr (Int.emod_self)
        obtain ⟨j, hj⟩ := Int.dvd_of_emod_eq_zero z0
        rw [hj, ← Int.add_assoc, show c * (csz z.cs * j) = csz z.cs * (c * j) by rw [← Int.mul_assoc, Int.mul_comm c, Int.mul_assoc], Int.add_mul_emod_self_left]
      conv => rhs; rw [← e]
      rw [show bck r q * (w / bck r q) = w / bck r q * x * (z.ev * hT z) by rw [hB, Int.mul_assoc (w / _) x, Int.mul_comm]]
      exact (add _ _).symm
    have wb := w3 _ m0 ((hm o hB1).trans w1) ((hm u hB2).trans w2)
    have wlt : w < bck r q := by omega
    obtain ⟨v, rfl⟩ : ∃ v : Nat, w = (v : Int) := ⟨w.toNat, by omega⟩
    have bv : bth r q τ τ' (v : Int) = true := by simp [bth, w1, w2]
    have an : ((List.range (bck r q).toNat).any fun j : Nat => bth r q τ τ' j) = true := by
      rw [List.any_eq_true]
      exact ⟨v, by simp; omega, bv⟩
    rw [an] at inE
    have ix : idxD h2 (.tup [.str (PC.tx r.cs τ), .str (PC.tx q.cs τ')]) (pL r q (NN r q)) = some v := by
      unfold pL
      rw [idx_find (M := fun j : Nat => bth r q τ τ' (j : Int)) (fun j => dq h2 j)]
      refine find_range (by have : NN r q = (bck r q + 3).toNat := rfl; omega) bv fun j hj => ?_
      cases hb : bth r q τ τ' (j : Int) with
      | false => rfl
      | true =>
        exfalso
        simp only [bth, Bool.and_eq_true, decide_eq_true_eq] at hb
        have := w3 (j : Int) (by omega) hb.1 hb.2
        omega
    have rc : recv h2 .indexL (.val (.ref n)) = true := by simp [recv, lstOf, objOf, st2.g, lstIn]
    have mt : mtV h2 .indexL (.val (.ref n)) [.val (.tup [.str (PC.tx r.cs τ), .str (PC.tx q.cs τ')])] = .ok (.val (.int v)) h2 := by
      simp only [mtV, lstOf, objOf, st2.g, lstIn, Option.bind_some, dok_pL s s' h2 57, kp, Bool.and_self, if_true, ix, Option.map_some, r_opt]
    refine fin (.int v) (intS v) ?_ (fun h => repr_int (by omega) (by omega)) (fun h => repr_int (by omega) (by omega))
    simp only [ev, evs, evo, tst, r_bind, List.getElem?_cons_zero, List.getElem?_cons_succ, sl2, inE, tru_b, r_opt, rc, mt]
end
def lawW : Ss := match b_law with
  | .cons _ (.cons (.for_ _ _ w) _) => w
  | _ => .nil
def Iv (ρ : Env) : Prop := ∃ t0 t2 t3 t4 t5 t6 t7 t8 t9 t10, ρ = [t0, some (.ref 2), t2, t3, t4, t5, t6, t7, t8, t9, t10]
theorem turn (k : Nat) (x : D) (ρ : Env) (h : Hp) (p : Nat) (K : Int) (v : Iv ρ) (d : Dr h 2 0 p K) (hK : K < 2 ^ 40) :
    ∃ (ρ' : Env) (h' : Hp) (p' : Nat), exs (sem P (k + 7)) lawW (ρ.set 2 (some x)) h = .nx ρ' h' ∧ Iv ρ' ∧ Dr h' 2 0 p' (K + 24) := by
  obtain ⟨t0, t2, t3, t4, t5, t6, t7, t8, t9, t10, rfl⟩ := v
  obtain ⟨r, h1, p1, e1, s, d1⟩ := c_lhand (k + 4) d (by omega)
  obtain ⟨q, h2, p2, e2, s', d2⟩ := c_lhand (k + 4) d1 (by omega)
  have e3 := fun h => c_lback (k + 4) s s' h
  have v1 : ex (sem P (k + 7)) (.asg 3 (.tup (.cons (.call f__law_hand (.cons (.var 1) .nil)) (.cons (.call f__law_hand (.cons (.var 1) .nil)) .nil)))) [t0, some (.ref 2), some x, t3, t4, t5, t6, t7, t8, t9, t10] h = .nx [t0, some (.ref 2), some x, some (.tup [hD r, hD q]), t4, t5, t6, t7, t8, t9, t10] h2 := by
    simp only [ex, ev, evs, r_bind, r_st, List.getElem?_cons_zero, List.getElem?_cons_succ, e1, e2, boxAll, boxOne, List.length_cons, List.length_nil, Nat.zero_add, Nat.reduceAdd, lim_2, decide_true, r_when, List.set_cons_zero, List.set_cons_succ]
  have v2 : ex (sem P (k + 7)) (.asg 4 (.call f__law_back (.cons (.idx (.var 3) (.c (.int 0))) (.cons (.idx (.var 3) (.c (.int 1))) .nil)))) [t0, some (.ref 2), some x, some (.tup [hD r, hD q]), t4, t5, t6, t7, t8, t9, t10] h2 = .nx (En r q t0 (some x) t5 t6 t7 t8 t9 t10) h2 := by
    simp only [ex, ev, evs, r_bind, r_st, List.getElem?_cons_zero, List.getElem?_cons_succ, i0, i1, e3, boxOne, List.set_cons_zero, List.set_cons_succ]
  have la := lcA_ok s s' k t0 (some x) t5 t6 t7 t8 t9 t10 h2
  have v3 : ex (sem P (k + 7)) (.asg 5 lcA) (En r q t0 (some x) t5 t6 t7 t8 t9 t10) h2 = .nx (En r q t0 (some x) (some (.ref h2.length)) t6 t7 t8 t9 t10) (h2 ++ [.lst (pL r q (NN r q))]) := by
    generalize lcA = z at la ⊢
    simp only [ex, la, r_st, boxOne, List.set_cons_zero, List.set_cons_succ]
  have g0 : (h2 ++ [O.lst (pL r q (NN r q))])[h2.length]? = some (.lst (pL r q (NN r q))) := by simp
  have v4 := vI_ok s s' k t0 (some x) t6 t7 t8 t9 t10 g0
  have dl := d2.lt
  have st : St r q h2.length (h2 ++ [O.lst (pL r q (NN r q))]) p2 (K + 7 + 7) := ⟨d2.app _, g0, by omega, by omega⟩
  have ei : evi (sem P (k + 7)) (.r1 (.c (.int 5))) (En r q t0 (some x) (some (.ref h2.length)) t6 t7 t8 t9 t10) (h2 ++ [O.lst (pL r q (NN r q))]) = .ok (rangeL 0 1 5, []) (h2 ++ [O.lst (pL r q (NN r q))]) := r1_ok (j := 5) (by simp only [ev]) (small_of (by omega) (by omega))
  have lp : ∀ (ds : List D) (t6 t7 t8 : Option D) (h : Hp) (p : Nat) (K : Int), St r q h2.length h p K → K + 2 * ds.length < 2 ^ 50 → ∃ (t6' t7' t8' : Option D) (h' : Hp) (p' : Nat), forL (fun d ρ => bindTg ρ (.one 6) d) [] (exs (sem P (k + 7)) vW) ds (En r q t0 (some x) (some (.ref h2.length)) t6 t7 t8 t9 t10) h = .nx (En r q t0 (some x) (some (.ref h2.length)) t6' t7' t8' t9 t10) h' ∧ St r q h2.length h' p' (K + 2 * ds.length) := by
    intro ds
    induction ds with
    | nil => intro t6 t7 t8 h p K st _; exact ⟨t6, t7, t8, h, p, rfl, by simpa using st⟩
    | cons y ds ih =>
      intro t6 t7 t8 h p K st hK
      have hl : ((y :: ds).length : Int) = ds.length + 1 := by simp
      rw [hl] at hK ⊢
      obtain ⟨a7, a8, h', p', e, st'⟩ := v_step s s' k t0 (some x) t7 t8 t9 t10 y st (by omega)
      obtain ⟨b6, b7, b8, h'', p'', e', st''⟩ := ih (some y) a7 a8 h' p' (K + 2) st' (by omega)
      refine ⟨b6, b7, b8, h'', p'', ?_, by rw [show K + 2 * ((ds.length : Int) + 1) = K + 2 + 2 * ds.length by omega]; exact st''⟩
      have bt : bindTg (En r q t0 (some x) (some (.ref h2.length)) t6 t7 t8 t9 t10) (.one 6) y = some (En r q t0 (some x) (some (.ref h2.length)) (some y) t7 t8 t9 t10) := rfl
      simp only [forL, same, bt, e, e']
  obtain ⟨a6, a7, a8, h3, p3, e5, st3⟩ := lp (rangeL 0 1 5) t6 t7 t8 _ p2 _ st (by rw [rangeL_length]; omega)
  have v5 : ex (sem P (k + 7)) (.for_ (.one 6) (.r1 (.c (.int 5))) vW) (En r q t0 (some x) (some (.ref h2.length)) t6 t7 t8 t9 t10) (h2 ++ [O.lst (pL r q (NN r q))]) = .nx (En r q t0 (some x) (some (.ref h2.length)) a6 a7 a8 t9 t10) h3 := by
    rw [ex_for ei]; exact e5
  refine ⟨En r q t0 (some x) (some (.ref h2.length)) a6 a7 a8 t9 t10, h3, p3, ?_, ⟨_, _, _, _, _, _, _, _, _, _, rfl⟩, ?_⟩
  · have eb : lawW = .cons (.asg 3 (.tup (.cons (.call f__law_hand (.cons (.var 1) .nil)) (.cons (.call f__law_hand (.cons (.var 1) .nil)) .nil)))) (.cons (.asg 4 (.call f__law_back (.cons (.idx (.var 3) (.c (.int 0))) (.cons (.idx (.var 3) (.c (.int 1))) .nil)))) (.cons (.asg 5 lcA) (.cons vI (.cons (.for_ (.one 6) (.r1 (.c (.int 5))) vW) .nil)))) := rfl
    rw [eb]
    simp only [List.set_cons_zero, List.set_cons_succ]
    simp only [exs, v1, v2, v3, v4, v5]
  · have := st3.d
    rw [rangeL_length] at this
    exact this.up (by omega)
theorem law_true (ns : List Int) (hl : ns.length ≤ 63) : ∃ h1, semOf dfs 12 f_law [.rol (ns.map .int)] [] = .ok (.val (.bl true)) h1 := by
  have hP : P f_law = some ⟨1, 11, b_law⟩ := rfl
  obtain ⟨ρ', h', p', K, e, v, d, _⟩ := law_shape (P := P) (fbg := f__law_begun) (k := 10) rfl hl (n := 9) (a := 2) (b := 4) (by omega) (by omega) (by omega) (by omega) (W := lawW) (rest := .cons (.ret (.c (.bl true))) .nil) Iv 24 (by omega) (by omega) ⟨_, _, _, _, _, _, _, _, _, _, rfl⟩ (turn 4)
  refine ⟨h', ?_⟩
  show sem P 12 f_law _ _ = _
  rw [sem_succ hP]
  refine runFn_eq (ρ := some (.rol (ns.map .int)) :: none :: List.replicate 9 none) ?_ rfl rfl
  have eb : b_law = .cons (.asg 1 (.call f__law_begun (.cons (.var 0) .nil))) (.cons (.for_ (.one 2) (.r1 (.bin .add (.c (.int 2)) (.b2 .min (.b1 .len (.var 0)) (.c (.int 4))))) lawW) (.cons (.ret (.c (.bl true))) .nil)) := rfl
  rw [eb, e]
  simp only [exs, ex, ev, r_st]
end K13

open PySem PySem.W PySem.Calls PyProof.Rows in
theorem PySem.Challenge.cw_labelhouse_k13_whole_panels_holds : PySem.Challenge.rw_labelhouse_k13_whole_panels.Holds := by
  w_on; o_law
  refine HandSHeadRun.head_any (r := OpenLaw.row PySem.Challenge.rw_labelhouse_k13_whole_panels) (q := view (OpenLaw.row PySem.Challenge.rw_labelhouse_k13_whole_panels).prog [48]) (H := K13.hk) (ob := K13.ob) (M := 2000) (loose := K13.loose) (d := HandSHeadRun.topDef (OpenLaw.row PySem.Challenge.rw_labelhouse_k13_whole_panels).prog 48) (kwd := []) K13.ob_eq
    (by kernel_rfl) (fun s => by kernel_rfl) K13.run (by kernel_rfl) (by kernel_rfl) (by kernel_rfl) (by rfl) (by first | assumption | decide +kernel) (by decide +kernel) ⟨rfl, rfl, rfl, rfl, rfl, by decide +kernel⟩ ?hw ?hc
  case hw => w_witness2
  case hc =>
    refine G.walkG (lw := PySem.Challenge.rw_labelhouse_k13_whole_panels) (m := 63) (n := 12) (x := "_law_script") rfl (by decide) (by kernel_rfl) ⟨rfl, by decide, by decide⟩ ?F
    intro w mg fa h Y G0 hmg0
    obtain ⟨K, KX, c⟩ := Y
    have hmg : mg ("law" : PySem.Str) = some (.ref fa) := by
      have e : (HandSHeadRun.topDef (OpenLaw.row PySem.Challenge.rw_labelhouse_k13_whole_panels).prog 48).name = ("law" : PySem.Str) := by kernel_rfl
      rw [← e]
      exact hmg0
    obtain ⟨fd, hb, hF⟩ := K13.facts (w := w) KX G0 hmg c
    refine ⟨K, fd, _, KX, hb, fun H a ns hl hO hS => ?_, hF⟩
    obtain ⟨h1, e1⟩ := K13.law_true ns hl
    exact G.law_sp hO hS e1
